import PyProof.Rows.All
import Wide.All
import OpenK.AllK
import Wide.FinOn
import HandS.ForMost
import HandS.ForExc
import HandS.Style
import HandS.Flow
import HandS.IsInst
import HandS.ExcInit
import HandS.WideBits
import HandS.StrMore
import HandS.TupAny
import HandS.TryMany
import HandS.ExcField
import HandS.ExcIs
import HandS.More
import HandS.WrittenGet
import HandS.ReplaceLit
import HandS.Head2
import HandS.HeadHook4
import HandS.HeadEnd
import HandS.HeadWalk
import PySem.Challenge.RW_caresfor_k90_claim_texts
set_option Elab.async false
set_option linter.all false
set_option maxRecDepth 100000
set_option maxHeartbeats 2000000
/-! Pu1: values as data, what stands for them in the heap, readings over data -/
namespace Pu
open PySem PySem.Spec PyProof.Rows L2

/-! ### data -/
inductive D where
  | non | bl (b : Bool) | int (i : Int) | str (x : Str)
  /-- a list, a list that is read alone (the script), a tuple, an instance of the class at c -/
  | lst (xs : List D) | frl (xs : List D) | tup (xs : List D) | obj (c : Addr) (fs : List (Str × D))
instance : Inhabited D := ⟨.non⟩

mutual
inductive Rp (K : PySem.W.Frag) (G : Hp) : V → D → Prop
  | non : Rp K G .non .non
  | bl (b : Bool) : Rp K G (.bl b) (.bl b)
  | int (i : Int) : Rp K G (.int i) (.int i)
  | str (x : Str) : Rp K G (.str x) (.str x)
  | lst {a : Addr} {xs : List V} {ds : List D} : G a = some (.lst xs) → Rps K G xs ds → Rp K G (.ref a) (.lst ds)
  | frl {a : Addr} {xs : List V} {ds : List D} : SqL K G a xs → Rps K G xs ds → Rp K G (.ref a) (.frl ds)
  | tup {a : Addr} {xs : List V} {ds : List D} : SqT K G a xs → Rps K G xs ds → Rp K G (.ref a) (.tup ds)
  | obj {a C dx : Addr} {fs : List (Str × V)} {ds : List (Str × D)} : G a = some (.ins C dx fs) → Rpf K G fs ds → Rp K G (.ref a) (.obj C ds)
inductive Rps (K : PySem.W.Frag) (G : Hp) : List V → List D → Prop
  | nil : Rps K G [] []
  | cons {v : V} {vs : List V} {d : D} {ds : List D} : Rp K G v d → Rps K G vs ds → Rps K G (v :: vs) (d :: ds)
inductive Rpf (K : PySem.W.Frag) (G : Hp) : List (Str × V) → List (Str × D) → Prop
  | nil : Rpf K G [] []
  | cons {f : Str} {v : V} {vs : List (Str × V)} {d : D} {ds : List (Str × D)} : Rp K G v d → Rpf K G vs ds → Rpf K G ((f, v) :: vs) ((f, d) :: ds)
end

section
variable {K : PySem.W.Frag} {G G' : Hp}
theorem seqT {a : Addr} {xs : List V} (e : Same G G') (h : SqT K G a xs) : SqT K G' a xs := by
  rcases h with (h | ⟨o, h⟩) | h
  · exact .inl (.inl (e _ _ h))
  · exact .inl (.inr ⟨o, e _ _ h⟩)
  · exact .inr h
mutual
theorem Rp.mono (e : Same G G') : ∀ {v : V} {d : D}, Rp K G v d → Rp K G' v d
  | _, _, .non => .non
  | _, _, .bl b => .bl b
  | _, _, .int i => .int i
  | _, _, .str x => .str x
  | _, _, .lst h r => .lst (e _ _ h) (Rps.mono e r)
  | _, _, .frl h r => .frl (e.seq h) (Rps.mono e r)
  | _, _, .tup h r => .tup (seqT e h) (Rps.mono e r)
  | _, _, .obj h r => .obj (e _ _ h) (Rpf.mono e r)
theorem Rps.mono (e : Same G G') : ∀ {v : List V} {d : List D}, Rps K G v d → Rps K G' v d
  | _, _, .nil => .nil
  | _, _, .cons h r => .cons (Rp.mono e h) (Rps.mono e r)
theorem Rpf.mono (e : Same G G') : ∀ {v : List (Str × V)} {d : List (Str × D)}, Rpf K G v d → Rpf K G' v d
  | _, _, .nil => .nil
  | _, _, .cons h r => .cons (Rp.mono e h) (Rpf.mono e r)
end
theorem Rps.length : ∀ {vs : List V} {ds : List D}, Rps K G vs ds → vs.length = ds.length
  | _, _, .nil => rfl
  | _, _, .cons _ r => by rw [List.length_cons, List.length_cons, Rps.length r]
theorem Rps.get : ∀ {vs : List V} {ds : List D} {i : Nat} {d : D}, Rps K G vs ds → ds[i]? = some d → ∃ v, vs[i]? = some v ∧ Rp K G v d
  | _, _, _, _, .nil, e => by simp at e
  | _, _, 0, _, .cons h _, e => by simp at e; subst e; exact ⟨_, rfl, h⟩
  | _, _, i + 1, d, .cons _ r, e => by
    obtain ⟨v, h1, h2⟩ := Rps.get (i := i) (d := d) r (by simpa using e)
    exact ⟨v, by simpa using h1, h2⟩
theorem Rps.getV : ∀ {vs : List V} {ds : List D} {i : Nat} {v : V}, Rps K G vs ds → vs[i]? = some v → ∃ d, ds[i]? = some d ∧ Rp K G v d
  | _, _, _, _, .nil, e => by simp at e
  | _, _, 0, _, .cons h _, e => by simp at e; subst e; exact ⟨_, rfl, h⟩
  | _, _, i + 1, v, .cons _ r, e => by
    obtain ⟨d, h1, h2⟩ := Rps.getV (i := i) (v := v) r (by simpa using e)
    exact ⟨d, by simpa using h1, h2⟩
theorem Rps.append : ∀ {vs ws : List V} {ds es : List D}, Rps K G vs ds → Rps K G ws es → Rps K G (vs ++ ws) (ds ++ es)
  | _, _, _, _, .nil, s => s
  | _, _, _, _, .cons h r, s => .cons h (Rps.append r s)
theorem Rps.drop : ∀ {vs : List V} {ds : List D} (n : Nat), Rps K G vs ds → Rps K G (vs.drop n) (ds.drop n)
  | _, _, 0, r => r
  | _, _, _ + 1, .nil => .nil
  | _, _, n + 1, .cons _ r => Rps.drop n r
theorem Rps.take : ∀ {vs : List V} {ds : List D} (n : Nat), Rps K G vs ds → Rps K G (vs.take n) (ds.take n)
  | _, _, 0, r => .nil
  | _, _, _ + 1, .nil => .nil
  | _, _, n + 1, .cons h r => .cons h (Rps.take n r)
theorem Rps.set {v : V} {d : D} (h : Rp K G v d) : ∀ {vs : List V} {ds : List D} (i : Nat), Rps K G vs ds → Rps K G (vs.set i v) (ds.set i d)
  | _, _, _, .nil => .nil
  | _, _, 0, .cons _ r => .cons h r
  | _, _, i + 1, .cons q r => .cons q (Rps.set h i r)
theorem Rps.dropLast {vs : List V} {ds : List D} (r : Rps K G vs ds) : Rps K G vs.dropLast ds.dropLast := by
  rw [List.dropLast_eq_take, List.dropLast_eq_take, r.length]
  exact r.take _
theorem Rps.reverse : ∀ {vs : List V} {ds : List D}, Rps K G vs ds → Rps K G vs.reverse ds.reverse
  | _, _, .nil => .nil
  | _, _, .cons h r => by
    rw [List.reverse_cons, List.reverse_cons]
    exact (Rps.reverse r).append (.cons h .nil)
theorem Rps.two {v w : V} {ds : List D} : Rps K G [v, w] ds → ∃ d e, ds = [d, e] ∧ Rp K G v d ∧ Rp K G w e
  | .cons h (.cons h' .nil) => ⟨_, _, rfl, h, h'⟩
/-- texts, ints, truth values -/
theorem Rps.ints : ∀ {vs : List V} {ns : List Int}, Rps K G vs (ns.map D.int) → vs = ns.map V.int
  | _, [], .nil => rfl
  | _, n :: ns, .cons h r => by
    cases h
    rw [Rps.ints r]
    all_goals rfl
theorem Rps.strs : ∀ {vs : List V} {ns : List Str}, Rps K G vs (ns.map D.str) → vs = ns.map V.str
  | _, [], .nil => rfl
  | _, n :: ns, .cons h r => by
    cases h
    rw [Rps.strs r]
    all_goals rfl
theorem Rps.bls : ∀ {vs : List V} {ns : List Bool}, Rps K G vs (ns.map D.bl) → vs = ns.map V.bl
  | _, [], .nil => rfl
  | _, n :: ns, .cons h r => by
    cases h
    rw [Rps.bls r]
    all_goals rfl
theorem Rps.of_ints : ∀ (ns : List Int), Rps K G (ns.map V.int) (ns.map D.int)
  | [] => .nil
  | n :: ns => .cons (.int n) (Rps.of_ints ns)
theorem Rps.of_strs : ∀ (ns : List Str), Rps K G (ns.map V.str) (ns.map D.str)
  | [] => .nil
  | n :: ns => .cons (.str n) (Rps.of_strs ns)
end

/-! ### the heap without some addresses -/
open Classical in
noncomputable def off (H : Hp) (U : Addr → Prop) : Hp := fun a => if U a then none else H a
theorem off_some {H : Hp} {U : Addr → Prop} {a : Addr} {o : HO} : off H U a = some o ↔ ¬ U a ∧ H a = some o := by
  unfold off
  by_cases h : U a
  · rw [if_pos h]; exact ⟨fun z => (by cases z), fun z => absurd h z.1⟩
  · rw [if_neg h]; exact ⟨fun z => ⟨h, z⟩, fun z => z.2⟩
theorem off_in {H : Hp} {U : Addr → Prop} : Same (off H U) H := fun _ _ h => (off_some.mp h).2
theorem off_mono {H H' : Hp} {U : Addr → Prop} (e : Same H H') : Same (off H U) (off H' U) := fun a o h => off_some.mpr ⟨(off_some.mp h).1, e a o (off_some.mp h).2⟩
theorem off_sub {H : Hp} {U U' : Addr → Prop} (s : ∀ a, U' a → U a) : Same (off H U) (off H U') := fun a o h => off_some.mpr ⟨fun z => (off_some.mp h).1 (s a z), (off_some.mp h).2⟩
/-- a new address may be put off -/
theorem off_new {H H' : Hp} {U : Addr → Prop} {p : Addr} (e : Same H H') (n : H p = none) : Same (off H U) (off H' fun a => U a ∨ a = p) := fun a o h => by
  obtain ⟨h1, h2⟩ := off_some.mp h
  refine off_some.mpr ⟨fun z => z.elim h1 fun q => ?_, e a o h2⟩
  rw [q, n] at h2
  cases h2
/-- an address that is put off may change -/
theorem off_upd {H : Hp} {U : Addr → Prop} {p : Addr} {o : HO} (h : U p) : off (upd H p o) U = off H U := by
  funext a
  unfold off
  by_cases ha : U a
  · rw [if_pos ha, if_pos ha]
  · rw [if_neg ha, if_neg ha, upd_ne (fun z => ha (by rw [z]; exact h))]
theorem same_upd {H : Hp} {p : Addr} {o : HO} (n : H p = none) : Same H (upd H p o) := fun a u h => by
  rw [upd_ne (ne_of_none h n)]
  exact h
theorem same_some {H H' : Hp} (e : Same H H') {a : Addr} (h : (H a).isSome = true) : (H' a).isSome = true := by
  obtain ⟨o, ho⟩ := Option.isSome_iff_exists.mp h
  rw [e a o ho]
  exact rfl
theorem new_off {H : Hp} {U : Addr → Prop} (hU : ∀ a, U a → (H a).isSome = true) {p : Addr} (n : H p = none) : ¬ U p := fun z => by
  have := hU p z
  rw [n] at this
  cases this

/-! ### slots -/
/-- what a name holds: a datum; a list of one's own (it may change; b: it may also become a datum) -/
inductive S where
  | fz (d : D) | ls (b : Bool) (ds : List D)
  /-- the exception at a that a suite holds: its class, its dict, its fields -/
  | exn (a : Addr) (c : Value) (d : Option Addr) (fs : List (Str × D))
@[simp] def S.d : S → D
  | .fz d => d
  | .ls _ ds => .lst ds
  | .exn _ _ _ _ => .non
def Xr (K : PySem.W.Frag) (G : Hp) (d : Option Addr) (fs : List (Str × D)) : Prop := (d = none ∧ fs = []) ∨ ∃ a vf, d = some a ∧ G a = some (.xd vf) ∧ Rpf K G vf fs
theorem Xr.mono {K : PySem.W.Frag} {G G' : Hp} {d : Option Addr} {fs : List (Str × D)} (e : Same G G') (h : Xr K G d fs) : Xr K G' d fs := by
  rcases h with h | ⟨a, vf, h1, h2, h3⟩
  · exact .inl h
  · exact .inr ⟨a, vf, h1, e _ _ h2, h3.mono e⟩
abbrev Env := List (Option S)
inductive EnA (K : PySem.W.Frag) (H G : Hp) : L2.St → Env → List (Addr × Bool) → Prop
  | nil : EnA K H G [] [] []
  | non {x : Option V} {σ : L2.St} {env : Env} {ps : List (Addr × Bool)} : EnA K H G σ env ps → EnA K H G (x :: σ) (none :: env) ps
  | fz {v : V} {d : D} {σ : L2.St} {env : Env} {ps : List (Addr × Bool)} : Rp K G v d → EnA K H G σ env ps → EnA K H G (some v :: σ) (some (.fz d) :: env) ps
  | ls {p : Addr} {b : Bool} {vs : List V} {ds : List D} {σ : L2.St} {env : Env} {ps : List (Addr × Bool)} : H p = some (.lst vs) → Rps K G vs ds → EnA K H G σ env ps → EnA K H G (some (.ref p) :: σ) (some (.ls b ds) :: env) ((p, b) :: ps)
  | exn {a : Addr} {c : Value} {d : Option Addr} {fs : List (Str × D)} {σ : L2.St} {env : Env} {ps : List (Addr × Bool)} : Xr K G d fs → EnA K H G σ env ps → EnA K H G (some (.ref a) :: σ) (some (.exn a c d fs) :: env) ps
section
variable {K : PySem.W.Frag} {H H' G G' : Hp} {σ : L2.St} {env : Env} {ps : List (Addr × Bool)} {i : Nat}
theorem EnA.mono (e : Same H H') (g : Same G G') (h : EnA K H G σ env ps) : EnA K H' G' σ env ps := by
  induction h with
  | nil => exact .nil
  | non _ ih => exact .non ih
  | fz r _ ih => exact .fz (r.mono g) ih
  | ls h r _ ih => exact .ls (e _ _ h) (r.mono g) ih
  | exn r _ ih => exact .exn (r.mono g) ih
theorem EnA.length (h : EnA K H G σ env ps) : σ.length = env.length := by
  induction h with
  | nil => rfl
  | non _ ih => simp [ih]
  | fz r _ ih => simp [ih]
  | ls h r _ ih => simp [ih]
  | exn r _ ih => simp [ih]
theorem EnA.get {d : D} (h : EnA K H G σ env ps) (e : env[i]? = some (some (.fz d))) : ∃ v, σ[i]? = some (some v) ∧ Rp K G v d := by
  induction h generalizing i with
  | nil => simp at e
  | non _ ih =>
    cases i with
    | zero => simp at e
    | succ i => simpa using ih (i := i) (by simpa using e)
  | fz r _ ih =>
    cases i with
    | zero => simp at e; subst e; exact ⟨_, rfl, r⟩
    | succ i => simpa using ih (i := i) (by simpa using e)
  | ls _ _ _ ih =>
    cases i with
    | zero => simp at e
    | succ i => simpa using ih (i := i) (by simpa using e)
  | exn r _ ih =>
    cases i with
    | zero => simp at e
    | succ i => simpa using ih (i := i) (by simpa using e)
theorem EnA.getX {a : Addr} {c : Value} {d : Option Addr} {fs : List (Str × D)} (h : EnA K H G σ env ps) (e : env[i]? = some (some (.exn a c d fs))) : σ[i]? = some (some (.ref a)) ∧ Xr K G d fs := by
  induction h generalizing i with
  | nil => simp at e
  | non _ ih =>
    cases i with
    | zero => simp at e
    | succ i => simpa using ih (i := i) (by simpa using e)
  | fz r _ ih =>
    cases i with
    | zero => simp at e
    | succ i => simpa using ih (i := i) (by simpa using e)
  | ls _ _ _ ih =>
    cases i with
    | zero => simp at e
    | succ i => simpa using ih (i := i) (by simpa using e)
  | exn r _ ih =>
    cases i with
    | zero =>
      simp at e
      obtain ⟨rfl, rfl, rfl, rfl⟩ := e
      exact ⟨rfl, r⟩
    | succ i => simpa using ih (i := i) (by simpa using e)
theorem EnA.getL {b : Bool} {ds : List D} (h : EnA K H G σ env ps) (e : env[i]? = some (some (.ls b ds))) : ∃ p vs, σ[i]? = some (some (.ref p)) ∧ H p = some (.lst vs) ∧ Rps K G vs ds ∧ (p, b) ∈ ps := by
  induction h generalizing i with
  | nil => simp at e
  | non _ ih =>
    cases i with
    | zero => simp at e
    | succ i => simpa using ih (i := i) (by simpa using e)
  | fz r _ ih =>
    cases i with
    | zero => simp at e
    | succ i => simpa using ih (i := i) (by simpa using e)
  | ls h1 h2 _ ih =>
    cases i with
    | zero =>
      simp at e
      obtain ⟨rfl, rfl⟩ := e
      exact ⟨_, _, rfl, h1, h2, List.mem_cons_self⟩
    | succ i =>
      obtain ⟨p, vs, a1, a2, a3, a4⟩ := ih (i := i) (by simpa using e)
      exact ⟨p, vs, by simpa using a1, a2, a3, List.mem_cons_of_mem _ a4⟩
  | exn r _ ih =>
    cases i with
    | zero => simp at e
    | succ i => simpa using ih (i := i) (by simpa using e)
/-- a slot is stored -/
theorem EnA.set {v : V} {d : D} (h : EnA K H G σ env ps) (r : Rp K G v d) : ∃ qs, EnA K H G (σ.set i (some v)) (env.set i (some (.fz d))) qs ∧ qs.Sublist ps := by
  induction h generalizing i with
  | nil => exact ⟨[], by simpa using EnA.nil, .slnil⟩
  | non h ih =>
    cases i with
    | zero => exact ⟨_, .fz r h, List.Sublist.refl _⟩
    | succ i => obtain ⟨qs, a, b⟩ := ih (i := i); exact ⟨qs, .non a, b⟩
  | fz r' h ih =>
    cases i with
    | zero => exact ⟨_, .fz r h, List.Sublist.refl _⟩
    | succ i => obtain ⟨qs, a, b⟩ := ih (i := i); exact ⟨qs, .fz r' a, b⟩
  | ls h1 h2 h ih =>
    cases i with
    | zero => exact ⟨_, .fz r h, List.sublist_cons_self _ _⟩
    | succ i => obtain ⟨qs, a, b⟩ := ih (i := i); exact ⟨_, .ls h1 h2 a, b.cons_cons _⟩
  | exn r' h ih =>
    cases i with
    | zero => exact ⟨_, .fz r h, List.Sublist.refl _⟩
    | succ i => obtain ⟨qs, a, b⟩ := ih (i := i); exact ⟨qs, .exn r' a, b⟩
theorem EnA.none (h : EnA K H G σ env ps) (x : Option V) : ∃ qs, EnA K H G (σ.set i x) (env.set i none) qs ∧ qs.Sublist ps := by
  induction h generalizing i with
  | nil => exact ⟨[], by simpa using EnA.nil, .slnil⟩
  | non h ih =>
    cases i with
    | zero => exact ⟨_, .non h, List.Sublist.refl _⟩
    | succ i => obtain ⟨qs, a, b⟩ := ih (i := i); exact ⟨qs, .non a, b⟩
  | fz r' h ih =>
    cases i with
    | zero => exact ⟨_, .non h, List.Sublist.refl _⟩
    | succ i => obtain ⟨qs, a, b⟩ := ih (i := i); exact ⟨qs, .fz r' a, b⟩
  | ls h1 h2 h ih =>
    cases i with
    | zero => exact ⟨_, .non h, List.sublist_cons_self _ _⟩
    | succ i => obtain ⟨qs, a, b⟩ := ih (i := i); exact ⟨_, .ls h1 h2 a, b.cons_cons _⟩
  | exn r' h ih =>
    cases i with
    | zero => exact ⟨_, .non h, List.Sublist.refl _⟩
    | succ i => obtain ⟨qs, a, b⟩ := ih (i := i); exact ⟨qs, .exn r' a, b⟩
/-- the suite's exception is stored -/
theorem EnA.setX {a : Addr} {c : Value} {d : Option Addr} {fs : List (Str × D)} (h : EnA K H G σ env ps) (r : Xr K G d fs) : ∃ qs, EnA K H G (σ.set i (some (.ref a))) (env.set i (some (.exn a c d fs))) qs ∧ qs.Sublist ps := by
  induction h generalizing i with
  | nil => exact ⟨[], by simpa using EnA.nil, .slnil⟩
  | non h ih =>
    cases i with
    | zero => exact ⟨_, .exn r h, List.Sublist.refl _⟩
    | succ i => obtain ⟨qs, a, b⟩ := ih (i := i); exact ⟨qs, .non a, b⟩
  | fz r' h ih =>
    cases i with
    | zero => exact ⟨_, .exn r h, List.Sublist.refl _⟩
    | succ i => obtain ⟨qs, a, b⟩ := ih (i := i); exact ⟨qs, .fz r' a, b⟩
  | ls h1 h2 h ih =>
    cases i with
    | zero => exact ⟨_, .exn r h, List.sublist_cons_self _ _⟩
    | succ i => obtain ⟨qs, a, b⟩ := ih (i := i); exact ⟨_, .ls h1 h2 a, b.cons_cons _⟩
  | exn r' h ih =>
    cases i with
    | zero => exact ⟨_, .exn r h, List.Sublist.refl _⟩
    | succ i => obtain ⟨qs, a, b⟩ := ih (i := i); exact ⟨qs, .exn r' a, b⟩
/-- a new list is stored -/
theorem EnA.setN {p : Addr} {vs : List V} {ds : List D} {b : Bool} (h : EnA K H G σ env ps) (hp : H p = some (.lst vs)) (r : Rps K G vs ds) (n : ∀ q ∈ ps, q.1 ≠ p) (nd : (ps.map (·.1)).Nodup) (hi : i < env.length) :
    ∃ qs, EnA K H G (σ.set i (some (.ref p))) (env.set i (some (.ls b ds))) qs ∧ (qs.map (·.1)).Nodup ∧ ∀ q ∈ qs, q = (p, b) ∨ q ∈ ps := by
  induction h generalizing i with
  | nil => simp at hi
  | non h ih =>
    cases i with
    | zero =>
      refine ⟨_, .ls hp r h, ?_, fun q hq => ?_⟩
      · rw [List.map_cons, List.nodup_cons]
        refine ⟨fun z => ?_, nd⟩
        obtain ⟨q, hq, e⟩ := List.mem_map.mp z
        exact n q hq e
      · rcases List.mem_cons.mp hq with z | z
        · exact .inl z
        · exact .inr z
    | succ i =>
      obtain ⟨qs, a, b, c⟩ := ih (i := i) n nd (by simpa using hi)
      exact ⟨qs, .non a, b, c⟩
  | fz r' h ih =>
    cases i with
    | zero =>
      refine ⟨_, .ls hp r h, ?_, fun q hq => ?_⟩
      · rw [List.map_cons, List.nodup_cons]
        refine ⟨fun z => ?_, nd⟩
        obtain ⟨q, hq, e⟩ := List.mem_map.mp z
        exact n q hq e
      · rcases List.mem_cons.mp hq with z | z
        · exact .inl z
        · exact .inr z
    | succ i =>
      obtain ⟨qs, a, b, c⟩ := ih (i := i) n nd (by simpa using hi)
      exact ⟨qs, .fz r' a, b, c⟩
  | exn r' h ih =>
    cases i with
    | zero =>
      refine ⟨_, .ls hp r h, ?_, fun q hq => ?_⟩
      · rw [List.map_cons, List.nodup_cons]
        refine ⟨fun z => ?_, nd⟩
        obtain ⟨q, hq, e⟩ := List.mem_map.mp z
        exact n q hq e
      · rcases List.mem_cons.mp hq with z | z
        · exact .inl z
        · exact .inr z
    | succ i =>
      obtain ⟨qs, a, b, c⟩ := ih (i := i) n nd (by simpa using hi)
      exact ⟨qs, .exn r' a, b, c⟩
  | @ls p0 b0 vs0 ds0 σ0 env0 ps0 h1 h2 h ih =>
    rw [List.map_cons, List.nodup_cons] at nd
    cases i with
    | zero =>
      refine ⟨_, .ls hp r h, ?_, fun q hq => ?_⟩
      · rw [List.map_cons, List.nodup_cons]
        refine ⟨fun z => ?_, nd.2⟩
        obtain ⟨q, hq, e⟩ := List.mem_map.mp z
        exact n q (List.mem_cons_of_mem _ hq) e
      · rcases List.mem_cons.mp hq with z | z
        · exact .inl z
        · exact .inr (List.mem_cons_of_mem _ z)
    | succ i =>
      obtain ⟨qs, a, b, c⟩ := ih (i := i) (fun q hq => n q (List.mem_cons_of_mem _ hq)) nd.2 (by simpa using hi)
      refine ⟨_, .ls h1 h2 a, ?_, fun q hq => ?_⟩
      · rw [List.map_cons, List.nodup_cons]
        refine ⟨fun z => ?_, b⟩
        obtain ⟨q, hq, e⟩ := List.mem_map.mp z
        rcases c q hq with z | z
        · subst z; exact n (p0, b0) List.mem_cons_self e.symm
        · exact nd.1 (List.mem_map.mpr ⟨q, z, e⟩)
      · rcases List.mem_cons.mp hq with z | z
        · exact .inr (z ▸ List.mem_cons_self)
        · exact (c q z).imp id (List.mem_cons_of_mem _)
/-- what is not in the slots may change -/
theorem EnA.other {p : Addr} {o : HO} (h : EnA K H G σ env ps) (n : ∀ q ∈ ps, q.1 ≠ p) : EnA K (upd H p o) G σ env ps := by
  induction h with
  | nil => exact .nil
  | non _ ih => exact .non (ih n)
  | fz r _ ih => exact .fz r (ih n)
  | exn r _ ih => exact .exn r (ih n)
  | ls h r _ ih => exact .ls (by rw [upd_ne (n _ List.mem_cons_self)]; exact h) r (ih fun q hq => n q (List.mem_cons_of_mem _ hq))
/-- the list at a slot changes -/
theorem EnA.put {p : Addr} {b : Bool} {ds ds' : List D} {vs' : List V} (h : EnA K H G σ env ps) (hi : env[i]? = some (some (.ls b ds))) (hp : σ[i]? = some (some (.ref p))) (r : Rps K G vs' ds') (nd : (ps.map (·.1)).Nodup) :
    EnA K (upd H p (.lst vs')) G σ (env.set i (some (.ls b ds'))) ps := by
  induction h generalizing i with
  | nil => simp at hi
  | non h ih =>
    cases i with
    | zero => simp at hi
    | succ i => exact .non (ih (i := i) (by simpa using hi) (by simpa using hp) nd)
  | fz r' h ih =>
    cases i with
    | zero => simp at hi
    | succ i => exact .fz r' (ih (i := i) (by simpa using hi) (by simpa using hp) nd)
  | exn r' h ih =>
    cases i with
    | zero => simp at hi
    | succ i => exact .exn r' (ih (i := i) (by simpa using hi) (by simpa using hp) nd)
  | @ls p0 b0 vs0 ds0 σ0 env0 ps0 h1 h2 h ih =>
    rw [List.map_cons, List.nodup_cons] at nd
    cases i with
    | zero =>
      simp at hi hp
      obtain ⟨rfl, rfl⟩ := hi
      subst hp
      exact .ls upd_same r (h.other fun q hq e => nd.1 (List.mem_map.mpr ⟨q, hq, e⟩))
    | succ i =>
      have h3 := ih (i := i) (by simpa using hi) (by simpa using hp) nd.2
      refine .ls ?_ h2 h3
      rw [upd_ne ?_]
      · exact h1
      · intro e
        obtain ⟨p', vs, q1, _, _, q2⟩ := h.getL (i := i) (by simpa using hi)
        rw [show σ0[i]? = some (some (.ref p)) by simpa using hp] at q1
        cases q1
        exact nd.1 (List.mem_map.mpr ⟨_, q2, e.symm⟩)
end

/-- the slots in a heap: U is what is put off -/
def En (K : PySem.W.Frag) (U : Addr → Prop) (H : Hp) (σ : L2.St) (env : Env) : Prop := (∀ a, U a → (H a).isSome = true) ∧ ∃ ps, EnA K H (off H U) σ env ps ∧ ∀ p ∈ ps, U p.1
theorem En.mono {K : PySem.W.Frag} {U : Addr → Prop} {H H' : Hp} {σ : L2.St} {env : Env} (e : Same H H') (h : En K U H σ env) : En K U H' σ env := by
  obtain ⟨h1, ps, h2, h3⟩ := h
  exact ⟨fun a z => same_some e (h1 a z), ps, h2.mono e (off_mono e), h3⟩
/-- a value that an expression has brought, H ahead of it, H' behind it -/
def Sv (K : PySem.W.Frag) (U : Addr → Prop) (H H' : Hp) (v : V) : S → Prop
  | .fz d => Rp K (off H' U) v d
  | .ls b ds => ∃ p vs, v = .ref p ∧ b = true ∧ H p = none ∧ H' p = some (.lst vs) ∧ Rps K (off H' fun a => U a ∨ a = p) vs ds
  | .exn _ _ _ _ => False
theorem Sv.fz {K : PySem.W.Frag} {U : Addr → Prop} {H H' : Hp} {v : V} {s : S} (hU : ∀ a, U a → (H a).isSome = true) (h : Sv K U H H' v s) : Rp K (off H' U) v s.d := by
  cases s with
  | fz d => exact h
  | ls b ds =>
    obtain ⟨p, vs, rfl, _, h2, h3, h4⟩ := h
    exact .lst (off_some.mpr ⟨new_off hU h2, h3⟩) (h4.mono (off_sub fun a z => .inl z))
  | exn _ _ _ _ => exact h.elim
theorem Sv.back {K : PySem.W.Frag} {U : Addr → Prop} {H H1 H' : Hp} {v : V} {s : S} (e : Same H H1) (h : Sv K U H1 H' v s) : Sv K U H H' v s := by
  cases s with
  | fz d => exact h
  | ls b ds =>
    obtain ⟨p, vs, q0, q1, h2, h3, h4⟩ := h
    exact ⟨p, vs, q0, q1, e.free h2, h3, h4⟩
  | exn _ _ _ _ => exact h.elim

/-! ### readings of expressions -/
/-- what is wished of an exception: its class, its fields -/
abbrev PX := Value → List (Str × D) → Prop
abbrev RE := Env → (S → Prop) → PX → Prop
abbrev RT := Env → (Bool → Prop) → PX → Prop
abbrev RA := Env → (List D → Prop) → PX → Prop
def Xv (K : PySem.W.Frag) (U : Addr → Prop) (H H' : Hp) (d : Option Addr) (fs : List (Str × D)) : Prop := Xr K (off H' U) d fs
theorem Xv.back {K : PySem.W.Frag} {U : Addr → Prop} {H H1 H' : Hp} {d : Option Addr} {fs : List (Str × D)} (e : Same H H1) (h : Xv K U H1 H' d fs) : Xv K U H H' d fs := h
def Gx (K : PySem.W.Frag) (W : WX) (U : Addr → Prop) (H : Hp) (σ : L2.St) (x : PX) : Prop := ∀ c fs d H', x c fs → Same H H' → Xv K U H H' d fs → W c d σ H'
theorem Gx.next {K : PySem.W.Frag} {W : WX} {U : Addr → Prop} {H H1 : Hp} {σ : L2.St} {x : PX} (e : Same H H1) (h : Gx K W U H σ x) : Gx K W U H1 σ x := fun c fs d H' a b z => h c fs d H' a (e.trans b) (z.back e)
def Ge (K : PySem.W.Frag) (W : WX) (te : TE) (t : RE) : Prop := ∀ (U : Addr → Prop) (env : Env) (σ : L2.St) (H : Hp) (Q : VK) (q : S → Prop) (x : PX), En K U H σ env → t env q x →
  (∀ v H' s, Same H H' → Sv K U H H' v s → q s → Q v H') → Gx K W U H σ x → te σ H Q
def Gt (K : PySem.W.Frag) (W : WX) (tt : TT) (t : RT) : Prop := ∀ (U : Addr → Prop) (env : Env) (σ : L2.St) (H : Hp) (Q : Bool → Hp → Prop) (q : Bool → Prop) (x : PX), En K U H σ env → t env q x →
  (∀ b H', Same H H' → q b → Q b H') → Gx K W U H σ x → tt σ H Q
def Ga (K : PySem.W.Frag) (W : WX) (ta : TA) (t : RA) : Prop := ∀ (U : Addr → Prop) (env : Env) (σ : L2.St) (H : Hp) (Q : List V → Hp → Prop) (q : List D → Prop) (x : PX), En K U H σ env → t env q x →
  (∀ vs H' ds, Same H H' → Rps K (off H' U) vs ds → q ds → Q vs H') → Gx K W U H σ x → ta σ H Q
structure DE (X : Cx) (W : WX) (e : Expr) (t : RE) where
  te : TE
  p : L2.PE X e te
  g : Ge X.K W te t
structure DT (X : Cx) (W : WX) (e : Expr) (t : RT) where
  tt : TT
  p : L2.PT X e tt
  g : Gt X.K W tt t
structure DW (X : Cx) (W : WX) (e : Expr) (t : RT) where
  tt : TT
  p : L2.PW X e tt
  g : Gt X.K W tt t
structure DA (X : Cx) (W : WX) (es : List Expr) (t : RA) where
  ta : TA
  p : L2.PA X es ta
  g : Ga X.K W ta t
end Pu
set_option Elab.async false
set_option linter.all false
set_option maxRecDepth 100000
set_option maxHeartbeats 2000000
/-! Pu2: rules of expressions over data -/
namespace Pu
open PySem PySem.Spec PyProof.Rows L2

section
variable {K : PySem.W.Frag} {W : WX}
/-! ### one expression behind another -/
theorem ge_d {te : TE} {t : RE} (g : Ge K W te t) {U : Addr → Prop} {env : Env} {σ : L2.St} {H : Hp} {x : PX} {q : D → Prop} {R : VK} (hE : En K U H σ env) (h : t env (fun s => q s.d) x)
    (k : ∀ v H' d, Same H H' → Rp K (off H' U) v d → q d → R v H') (hx : Gx K W U H σ x) : te σ H R :=
  g U env σ H R _ x hE h (fun v H' s e r z => k v H' s.d e (r.fz (fun a u => hE.1 a u)) z) hx
theorem ge_two {ta tb : TE} {a b : RE} (ga : Ge K W ta a) (gb : Ge K W tb b) {U : Addr → Prop} {env : Env} {σ : L2.St} {H : Hp} {x : PX} {q : D → D → Prop} {R : V → V → Hp → Prop} (hE : En K U H σ env)
    (h : a env (fun s1 => b env (fun s2 => q s1.d s2.d) x) x) (k : ∀ v1 v2 H' d1 d2, Same H H' → Rp K (off H' U) v1 d1 → Rp K (off H' U) v2 d2 → q d1 d2 → R v1 v2 H') (hx : Gx K W U H σ x) :
    ta σ H fun v1 H1 => tb σ H1 fun v2 H2 => R v1 v2 H2 :=
  ge_d ga (q := fun d1 => b env (fun s2 => q d1 s2.d) x) hE h (fun v1 H1 d1 e1 r1 h1 => ge_d gb (q := q d1) (hE.mono e1) h1 (fun v2 H2 d2 e2 r2 h2 => k v1 v2 H2 d1 d2 (e1.trans e2) (r1.mono (off_mono e2)) r2 h2) (hx.next e1)) hx

/-! ### names, constants -/
@[simp] def rVar (i : Nat) : RE := fun env q _ => match env[i]? with
  | some (some (.fz d)) => q (.fz d)
  | _ => False
@[simp] def rC (d : D) : RE := fun _ q _ => q (.fz d)
theorem ge_var (i : Nat) : Ge K W (tVar i) (rVar i) := by
  intro U env σ H Q q x hE h k hx
  obtain ⟨_, ps, hA, _⟩ := hE
  unfold rVar at h
  split at h
  · rename_i d e
    obtain ⟨v, h1, h2⟩ := hA.get e
    exact ⟨v, h1, k v H (.fz d) (Same.refl H) h2 h⟩
  · exact h.elim
theorem ge_c {v : V} {d : D} (r : ∀ G, Rp K G v d) : Ge K W (tC v) (rC d) := fun U env σ H Q q x hE h k hx => k v H (.fz d) (Same.refl H) (r _) h
end

section
variable {X : Cx} {W : WX} {e a b c : Expr} {ta tb tc : RE} {pos : Pos}
noncomputable def dv (i : Nat) {x : Str} (hN : X.N[i]? = some x := by rfl) (hv : Vis X.env.scope x := by first | exact Or.inl rfl | exact Or.inr (Or.inl rfl) | exact Or.inr (Or.inr rfl)) (hd : (x == ("__debug__" : Str)) = false := by decide)
    (hcd : (x == ("__classdict__" : Str)) = false := by decide) : DE X W (.Name x pos) (rVar i) := ⟨_, pe_var hN hv hd hcd, ge_var i⟩
noncomputable def de_int {i j} : DE X W (.Constant (.int i) j pos) (rC (.int i)) := ⟨_, pe_int, ge_c fun _ => .int i⟩
noncomputable def de_bl {i j} : DE X W (.Constant (.bool i) j pos) (rC (.bl i)) := ⟨_, pe_bl, ge_c fun _ => .bl i⟩
noncomputable def de_non {j} : DE X W (.Constant .none j pos) (rC .non) := ⟨_, pe_non, ge_c fun _ => .non⟩
noncomputable def de_str {i j} : DE X W (.Constant (.str i) j pos) (rC (.str i)) := ⟨_, pe_str, ge_c fun _ => .str i⟩
/-- a constant of the module -/
noncomputable def de_glob {x : Str} {v : V} {d : D} {u : Value} (hg : Gl X x) (hm : X.mg x = some u) (r : RelV v u) (rp : ∀ G, Rp X.K G v d) (hd : (x == ("__debug__" : Str)) = false := by decide) : DE X W (.Name x pos) (rC d) := ⟨_, pe_glob hg hm r hd, ge_c rp⟩

/-! ### two-place operators -/
abbrev F2 := D → D → (S → Prop) → Prop
@[simp] def r2 (f : F2) (ta tb : RE) : RE := fun env q x => ta env (fun s1 => tb env (fun s2 => f s1.d s2.d q) x) x
def Rule2 (K : PySem.W.Frag) (r : R2) (f : F2) : Prop := ∀ (U : Addr → Prop) (H : Hp) (v1 v2 : V) (d1 d2 : D) (Q : VK) (q : S → Prop), (∀ a, U a → (H a).isSome = true) → Rp K (off H U) v1 d1 → Rp K (off H U) v2 d2 → f d1 d2 q →
  (∀ v H' s, Same H H' → Sv K U H H' v s → q s → Q v H') → r v1 v2 H Q
theorem ge_op {K : PySem.W.Frag} {r : R2} {f : F2} {ta tb : TE} {a b : RE} (hr : Rule2 K r f) (ga : Ge K W ta a) (gb : Ge K W tb b) : Ge K W (tOp r ta tb) (r2 f a b) := fun U env σ H Q q x hE h k hx =>
  ge_two ga gb (q := fun d1 d2 => f d1 d2 q) hE h (fun v1 v2 H' d1 d2 e r1 r2 hf => hr U H' v1 v2 d1 d2 Q q (fun a u => same_some e (hE.1 a u)) r1 r2 hf fun v H2 s e2 sv hq => k v H2 s (e.trans e2) (sv.back e) hq) hx
noncomputable def de_op {op : Operator} {r : R2} {f : F2} (ho : OpR X (binaryOp op) r) (hr : Rule2 X.K r f) (ha : DE X W a ta) (hb : DE X W b tb) : DE X W (.BinOp a op b pos) (r2 f ta tb) := by
  obtain ⟨t1, p1, g1⟩ := ha
  obtain ⟨t2, p2, g2⟩ := hb
  exact ⟨_, pe_op ho p1 p2, ge_op hr g1 g2⟩
noncomputable def de_cmp {op : CmpOp} {r : R2} {f : F2} (ho : OpR X (compareOp op) r) (hr : Rule2 X.K r f) (hm : behindInMarks op b = false) (ha : DE X W a ta) (hb : DE X W b tb) : DE X W (.Compare a [op] [b] pos) (r2 f ta tb) := by
  obtain ⟨t1, p1, g1⟩ := ha
  obtain ⟨t2, p2, g2⟩ := hb
  exact ⟨_, pe_cmpR ho p1 p2 hm, ge_op hr g1 g2⟩
theorem Rule2.or {K : PySem.W.Frag} {r r' : R2} {f f' : F2} (h : Rule2 K r f) (h' : Rule2 K r' f') : Rule2 K (fun x y H Q => r x y H Q ∨ r' x y H Q) (fun x y q => f x y q ∨ f' x y q) := fun U H v1 v2 d1 d2 Q q hU r1 r2 hf k =>
  hf.elim (fun z => .inl (h U H v1 v2 d1 d2 Q q hU r1 r2 z k)) fun z => .inr (h' U H v1 v2 d1 d2 Q q hU r1 r2 z k)
theorem Rule2.imp {K : PySem.W.Frag} {r : R2} {f f' : F2} (h : Rule2 K r f) (i : ∀ x y q, f' x y q → f x y q) : Rule2 K r f' := fun U H v1 v2 d1 d2 Q q hU r1 r2 hf k => h U H v1 v2 d1 d2 Q q hU r1 r2 (i _ _ _ hf) k
/-- ints -/
@[simp] def fI (C : Int → Int → Prop) (g : Int → Int → D) : F2 := fun x y q => match x, y with
  | .int i, .int j => C i j ∧ q (.fz (g i j))
  | _, _ => False
theorem rule_int {K : PySem.W.Frag} {C : Int → Int → Prop} {g : Int → Int → V} {g' : Int → Int → D} (hg : ∀ i j G, Rp K G (g i j) (g' i j)) : Rule2 K (rI C g) (fI C g') := by
  intro U H v1 v2 d1 d2 Q q hU r1 r2 hf k
  cases d1 <;> cases d2 <;> first | exact hf.elim | skip
  cases r1
  cases r2
  exact ⟨_, _, rfl, rfl, hf.1, k _ H (.fz _) (Same.refl H) (hg _ _ _) hf.2⟩
theorem rule_int0 {K : PySem.W.Frag} {g : Int → Int → V} {g' : Int → Int → D} (hg : ∀ i j G, Rp K G (g i j) (g' i j)) : Rule2 K (rI0 g) (fI (fun _ _ => True) g') := by
  intro U H v1 v2 d1 d2 Q q hU r1 r2 hf k
  cases d1 <;> cases d2 <;> first | exact hf.elim | skip
  cases r1
  cases r2
  exact ⟨_, _, rfl, rfl, k _ H (.fz _) (Same.refl H) (hg _ _ _) hf.2⟩
@[simp] def fSub : F2 := fI (fun _ _ => True) fun i j => .int (i - j)
@[simp] def fMul : F2 := fI CMul fun i j => .int (i * j)
@[simp] def fDiv : F2 := fI CDiv fun i j => .int (i / j)
@[simp] def fMod : F2 := fI (fun _ j => 0 < j) fun i j => .int (i % j)
@[simp] def fPow : F2 := fI CPow fun i j => .int (i ^ j.toNat)
noncomputable def de_sub (ha : DE X W a ta) (hb : DE X W b tb) : DE X W (.BinOp a .Sub b pos) (r2 fSub ta tb) := de_op op_sub (rule_int0 fun _ _ _ => .int _) ha hb
noncomputable def de_mul (ha : DE X W a ta) (hb : DE X W b tb) : DE X W (.BinOp a .Mult b pos) (r2 fMul ta tb) := de_op op_mul (rule_int fun _ _ _ => .int _) ha hb
noncomputable def de_div (ha : DE X W a ta) (hb : DE X W b tb) : DE X W (.BinOp a .FloorDiv b pos) (r2 fDiv ta tb) := de_op op_fdiv (rule_int fun _ _ _ => .int _) ha hb
noncomputable def de_mod (ha : DE X W a ta) (hb : DE X W b tb) : DE X W (.BinOp a .Mod b pos) (r2 fMod ta tb) := de_op op_mod (rule_int fun _ _ _ => .int _) ha hb
noncomputable def de_pow (ha : DE X W a ta) (hb : DE X W b tb) : DE X W (.BinOp a .Pow b pos) (r2 fPow ta tb) := de_op op_pow (rule_int fun _ _ _ => .int _) ha hb
@[simp] def fLt : F2 := fI (fun _ _ => True) fun i j => .bl (decide (i < j))
@[simp] def fLe : F2 := fI (fun _ _ => True) fun i j => .bl (decide (i ≤ j))
@[simp] def fGt : F2 := fI (fun _ _ => True) fun i j => .bl (decide (j < i))
@[simp] def fGe : F2 := fI (fun _ _ => True) fun i j => .bl (decide (j ≤ i))
noncomputable def de_lt (ha : DE X W a ta) (hb : DE X W b tb) : DE X W (.Compare a [.Lt] [b] pos) (r2 fLt ta tb) := de_cmp op_lt (rule_int0 fun _ _ _ => .bl _) (nomark _) ha hb
noncomputable def de_le (ha : DE X W a ta) (hb : DE X W b tb) : DE X W (.Compare a [.LtE] [b] pos) (r2 fLe ta tb) := de_cmp op_le (rule_int0 fun _ _ _ => .bl _) (nomark _) ha hb
noncomputable def de_gt (ha : DE X W a ta) (hb : DE X W b tb) : DE X W (.Compare a [.Gt] [b] pos) (r2 fGt ta tb) := de_cmp op_gt (rule_int0 fun _ _ _ => .bl _) (nomark _) ha hb
noncomputable def de_ge (ha : DE X W a ta) (hb : DE X W b tb) : DE X W (.Compare a [.GtE] [b] pos) (r2 fGe ta tb) := de_cmp op_ge (rule_int0 fun _ _ _ => .bl _) (nomark _) ha hb

/-! ### + of ints, texts, lists, tuples -/
@[simp] def fAdd : F2 := fun x y q => match x, y with
  | .int i, .int j => q (.fz (.int (i + j)))
  | .str u, .str v => u.length + v.length ≤ sizeLine ∧ q (.fz (.str (u ++ v)))
  | .lst u, .lst v => u.length + v.length ≤ sizeLine ∧ q (.ls true (u ++ v))
  | .tup u, .tup v => u.length + v.length ≤ sizeLine ∧ q (.fz (.tup (u ++ v)))
  | _, _ => False
def rAddAll (K : PySem.W.Frag) : R2 := fun x y H Q => rI0 (fun i j => .int (i + j)) x y H Q ∨ (fun x y H Q => ∃ i j, x = .str i ∧ y = .str j ∧ i.length + j.length ≤ sizeLine ∧ Q (.str (i ++ j)) H) x y H Q ∨ rCat x y H Q ∨ rCatA K x y H Q
theorem op_addAll : OpR X (binaryOp .Add) (rAddAll X.K) := op_add.or (op_add_str.or (op_cat.or op_catA))
theorem seqT_of {K : PySem.W.Frag} {H : Hp} {a : Addr} {xs : List V} (h : H a = some (.tup xs)) : SqT K H a xs := .inl (.inl h)
theorem Rps.len0 {K : PySem.W.Frag} {G : Hp} {vs : List V} {ds : List D} (r : Rps K G vs ds) (h : vs = []) : ds = [] := by
  subst h
  cases r
  rfl
theorem rule_add {K : PySem.W.Frag} : Rule2 K (rAddAll K) fAdd := by
  intro U H v1 v2 d1 d2 Q q hU r1 r2 hf k
  cases d1 <;> cases d2 <;> first | exact hf.elim | skip
  · cases r1
    cases r2
    exact .inl ⟨_, _, rfl, rfl, k _ H (.fz (.int _)) (Same.refl H) (.int _) hf⟩
  · cases r1
    cases r2
    exact .inr (.inl ⟨_, _, rfl, rfl, hf.1, k _ H (.fz (.str _)) (Same.refl H) (.str _) hf.2⟩)
  · cases r1 with
    | lst h1 s1 =>
      cases r2 with
      | lst h2 s2 =>
        refine .inr (.inr (.inl ⟨_, _, _, _, rfl, rfl, off_in _ _ h1, off_in _ _ h2, by rw [s1.length, s2.length]; exact hf.1, fun p np => ?_⟩))
        refine k _ _ (.ls true _) (same_upd np) ⟨p, _, rfl, rfl, np, upd_same, ?_⟩ hf.2
        exact (s1.append s2).mono (off_new (same_upd np) np)
  · cases r1 with
    | tup h1 s1 =>
      cases r2 with
      | tup h2 s2 =>
        refine .inr (.inr (.inr ⟨_, _, _, _, rfl, rfl, seqT off_in h1, seqT off_in h2, by rw [s1.length, s2.length]; exact hf.1, fun e => ?_, fun e1 e2 => ?_, fun e1 e2 p np => ?_⟩))
        · have := s1.len0 e
          subst this
          exact k _ H (.fz (.tup _)) (Same.refl H) (.tup h2 s2) hf.2
        · have := s2.len0 e2
          subst this
          exact k _ H (.fz (.tup _)) (Same.refl H) (.tup h1 (by rw [List.append_nil]; exact s1)) hf.2
        · refine k _ _ (.fz (.tup _)) (same_upd np) (.tup (seqT_of (off_some.mpr ⟨new_off hU np, upd_same⟩)) ?_) hf.2
          exact (s1.append s2).mono (off_mono (same_upd np))
noncomputable def de_add (ha : DE X W a ta) (hb : DE X W b tb) : DE X W (.BinOp a .Add b pos) (r2 fAdd ta tb) := de_op op_addAll rule_add ha hb

/-! ### == and != of data -/
mutual
def D.py : D → PyData
  | .non => .none
  | .bl b => .bool b
  | .int i => .int i
  | .str x => .str x
  | .lst xs => .list (D.pys xs)
  | .frl xs => .list (D.pys xs)
  | .tup xs => .tuple (D.pys xs)
  | .obj _ _ => .dict []
def D.pys : List D → List PyData
  | [] => []
  | d :: ds => d.py :: D.pys ds
end
mutual
def D.pure : D → Bool
  | .lst xs => D.pures xs
  | .frl xs => D.pures xs
  | .tup xs => D.pures xs
  | .obj _ _ => false
  | _ => true
def D.pures : List D → Bool
  | [] => true
  | d :: ds => d.pure && D.pures ds
end
mutual
theorem Rp.dp {K : PySem.W.Frag} {G H : Hp} (e : Same G H) : ∀ {v : V} {d : D}, Rp K G v d → d.pure = true → Dp K H v d.py
  | _, _, .non, _ => .non
  | _, _, .bl b, _ => .bl b
  | _, _, .int i, _ => .int i
  | _, _, .str x, _ => .str x
  | _, .obj _ _, .obj _ _, h => by simp [D.pure] at h
  | _, .lst ds, .lst h r, p => by
    have q := Rps.dp e r (by simpa [D.pure] using p)
    show Dp K H _ (.list (D.pys ds))
    exact .lst (.inl (.inl (e _ _ h))) q
  | _, .frl ds, .frl h r, p => by
    have q := Rps.dp e r (by simpa [D.pure] using p)
    show Dp K H _ (.list (D.pys ds))
    exact .lst (e.seq h) q
  | _, .tup ds, .tup h r, p => by
    have q := Rps.dp e r (by simpa [D.pure] using p)
    show Dp K H _ (.tuple (D.pys ds))
    exact .tup (seqT e h) q
theorem Rps.dp {K : PySem.W.Frag} {G H : Hp} (e : Same G H) : ∀ {v : List V} {d : List D}, Rps K G v d → D.pures d = true → DpAll K H v (D.pys d)
  | _, _, .nil, _ => .nil
  | _, d :: ds, .cons h r, p => by
    have p' : d.pure = true ∧ D.pures ds = true := by simpa [D.pures] using p
    show DpAll K H _ (d.py :: D.pys ds)
    exact .cons (h.dp e p'.1) (Rps.dp e r p'.2)
end
def Dq (x y : D) : Prop := x.pure = true ∧ y.pure = true ∧ SeqAt.shaped x.py = true ∧ SeqAt.shaped y.py = true
@[simp] def fEq : F2 := fun x y q => match x, y with
  | .int i, .int j => q (.fz (.bl (decide (i = j))))
  | .str i, .str j => q (.fz (.bl (decide (i = j))))
  | .bl i, .bl j => q (.fz (.bl (decide (i = j))))
  | .non, .non => q (.fz (.bl true))
  | .non, .str _ => q (.fz (.bl false))
  | .str _, .non => q (.fz (.bl false))
  | x, y => Dq x y ∧ q (.fz (.bl (PyData.eqv x.py y.py)))
@[simp] def fNe : F2 := fun x y q => match x, y with
  | .int i, .int j => q (.fz (.bl (!decide (i = j))))
  | .str i, .str j => q (.fz (.bl (!decide (i = j))))
  | .bl i, .bl j => q (.fz (.bl (!decide (i = j))))
  | .non, .non => q (.fz (.bl false))
  | .non, .str _ => q (.fz (.bl true))
  | .str _, .non => q (.fz (.bl true))
  | x, y => Dq x y ∧ q (.fz (.bl (!PyData.eqv x.py y.py)))
def rEqAll (K : PySem.W.Frag) : R2 := fun x y H Q => rEq x y H Q ∨ rEqD K x y H Q
def rNeAll (K : PySem.W.Frag) : R2 := fun x y H Q => rNe x y H Q ∨ rNeD K x y H Q
theorem dec_of {a b : Bool} {q : S → Prop} (e : a = b) (h : q (.fz (.bl a))) : q (.fz (.bl b)) := e ▸ h
theorem rule_eq {K : PySem.W.Frag} : Rule2 K (rEqAll K) fEq := by
  intro U H v1 v2 d1 d2 Q q hU h1 h2 hf k
  have deep : Dq d1 d2 ∧ q (.fz (.bl (PyData.eqv d1.py d2.py))) → rEqAll K v1 v2 H Q := fun ⟨⟨p1, p2, s1, s2⟩, hq⟩ => .inr ⟨_, _, h1.dp off_in p1, h2.dp off_in p2, s1, s2, k _ H (.fz (.bl _)) (Same.refl H) (.bl _) hq⟩
  unfold fEq at hf
  split at hf
  · cases h1; cases h2
    exact .inl ⟨rfl, k _ H (.fz (.bl _)) (Same.refl H) (.bl _) (dec_of (by simp) hf)⟩
  · cases h1; cases h2
    exact .inl ⟨rfl, k _ H (.fz (.bl _)) (Same.refl H) (.bl _) (dec_of (by simp) hf)⟩
  · cases h1; cases h2
    exact .inl ⟨rfl, k _ H (.fz (.bl _)) (Same.refl H) (.bl _) (dec_of (by simp) hf)⟩
  · cases h1; cases h2
    exact .inl ⟨rfl, k _ H (.fz (.bl _)) (Same.refl H) (.bl _) (dec_of (by simp) hf)⟩
  · cases h1; cases h2
    exact .inl ⟨rfl, k _ H (.fz (.bl _)) (Same.refl H) (.bl _) (dec_of (by simp) hf)⟩
  · cases h1; cases h2
    exact .inl ⟨rfl, k _ H (.fz (.bl _)) (Same.refl H) (.bl _) (dec_of (by simp) hf)⟩
  · exact deep hf
theorem rule_ne {K : PySem.W.Frag} : Rule2 K (rNeAll K) fNe := by
  intro U H v1 v2 d1 d2 Q q hU h1 h2 hf k
  have deep : Dq d1 d2 ∧ q (.fz (.bl (!PyData.eqv d1.py d2.py))) → rNeAll K v1 v2 H Q := fun ⟨⟨p1, p2, s1, s2⟩, hq⟩ => .inr ⟨_, _, h1.dp off_in p1, h2.dp off_in p2, s1, s2, k _ H (.fz (.bl _)) (Same.refl H) (.bl _) hq⟩
  unfold fNe at hf
  split at hf
  · cases h1; cases h2
    exact .inl ⟨rfl, k _ H (.fz (.bl _)) (Same.refl H) (.bl _) (dec_of (by simp) hf)⟩
  · cases h1; cases h2
    exact .inl ⟨rfl, k _ H (.fz (.bl _)) (Same.refl H) (.bl _) (dec_of (by simp) hf)⟩
  · cases h1; cases h2
    exact .inl ⟨rfl, k _ H (.fz (.bl _)) (Same.refl H) (.bl _) (dec_of (by simp) hf)⟩
  · cases h1; cases h2
    exact .inl ⟨rfl, k _ H (.fz (.bl _)) (Same.refl H) (.bl _) (dec_of (by simp) hf)⟩
  · cases h1; cases h2
    exact .inl ⟨rfl, k _ H (.fz (.bl _)) (Same.refl H) (.bl _) (dec_of (by simp) hf)⟩
  · cases h1; cases h2
    exact .inl ⟨rfl, k _ H (.fz (.bl _)) (Same.refl H) (.bl _) (dec_of (by simp) hf)⟩
  · exact deep hf
theorem op_eqAll (hu : X.A.units + 64 < cLine) : OpR X (compareOp .Eq) (rEqAll X.K) := op_eq.or (op_eqD hu)
theorem op_neAll (hu : X.A.units + 64 < cLine) : OpR X (compareOp .NotEq) (rNeAll X.K) := op_ne.or (op_neD hu)
noncomputable def de_eq (hu : X.A.units + 64 < cLine) (ha : DE X W a ta) (hb : DE X W b tb) : DE X W (.Compare a [.Eq] [b] pos) (r2 fEq ta tb) := de_cmp (op_eqAll hu) rule_eq (nomark _) ha hb
noncomputable def de_ne (hu : X.A.units + 64 < cLine) (ha : DE X W a ta) (hb : DE X W b tb) : DE X W (.Compare a [.NotEq] [b] pos) (r2 fNe ta tb) := de_cmp (op_neAll hu) rule_ne (nomark _) ha hb
/-- is None -/
@[simp] def fIsN : F2 := fun x y q => match y with
  | .non => q (.fz (.bl (match x with | .non => true | _ => false)))
  | _ => False
@[simp] def fNotN : F2 := fun x y q => match y with
  | .non => q (.fz (.bl (match x with | .non => false | _ => true)))
  | _ => False
theorem rule_isN {K : PySem.W.Frag} : Rule2 K (fun x y H Q => y = .non ∧ Q (.bl (decide (x = .non))) H) fIsN := by
  intro U H v1 v2 d1 d2 Q q hU h1 h2 hf k
  cases d2 <;> first | exact hf.elim | skip
  cases h2
  refine ⟨rfl, k _ H (.fz (.bl _)) (Same.refl H) (.bl _) (dec_of ?_ hf)⟩
  cases h1 <;> simp
theorem rule_notN {K : PySem.W.Frag} : Rule2 K (fun x y H Q => y = .non ∧ Q (.bl (!decide (x = .non))) H) fNotN := by
  intro U H v1 v2 d1 d2 Q q hU h1 h2 hf k
  cases d2 <;> first | exact hf.elim | skip
  cases h2
  refine ⟨rfl, k _ H (.fz (.bl _)) (Same.refl H) (.bl _) (dec_of ?_ hf)⟩
  cases h1 <;> simp
noncomputable def de_isN (ha : DE X W a ta) (hb : DE X W b tb) : DE X W (.Compare a [.Is] [b] pos) (r2 fIsN ta tb) := de_cmp op_isN rule_isN (nomark _) ha hb
noncomputable def de_notN (ha : DE X W a ta) (hb : DE X W b tb) : DE X W (.Compare a [.IsNot] [b] pos) (r2 fNotN ta tb) := de_cmp op_notN rule_notN (nomark _) ha hb

/-! ### in, not in -/
def D.flat : D → Bool
  | .non => true
  | .bl _ => true
  | .int _ => true
  | .str _ => true
  | _ => false
def eqF : D → D → Bool
  | .non, .non => true
  | .bl a, .bl b => a == b
  | .bl a, .int b => (if a then 1 else 0) == b
  | .int a, .bl b => a == (if b then 1 else 0)
  | .int a, .int b => a == b
  | .str a, .str b => a == b
  | _, _ => false
theorem Rp.flat {K : PySem.W.Frag} {G : Hp} {v : V} {d : D} (h : Rp K G v d) (f : d.flat = true) : flatV v = true := by
  cases h <;> first | rfl | (simp [D.flat] at f)
theorem Rps.flat {K : PySem.W.Frag} {G : Hp} : ∀ {vs : List V} {ds : List D}, Rps K G vs ds → ds.all D.flat = true → vs.all flatV = true
  | _, _, .nil, _ => rfl
  | _, _, .cons h r, f => by
    rw [List.all_cons, Bool.and_eq_true] at f ⊢
    exact ⟨h.flat f.1, r.flat f.2⟩
theorem eqF_V {K : PySem.W.Frag} {G : Hp} {v w : V} {d e : D} (h : Rp K G v d) (h' : Rp K G w e) (f : d.flat = true) (f' : e.flat = true) : eqV v w = eqF d e := by
  cases h <;> first | (simp [D.flat] at f; done) | skip
  all_goals cases h' <;> first | rfl | (simp [D.flat] at f')
theorem inF_V {K : PySem.W.Frag} {G : Hp} {w : V} {e : D} (h' : Rp K G w e) (f' : e.flat = true) : ∀ {vs : List V} {ds : List D}, Rps K G vs ds → ds.all D.flat = true → inV w vs = ds.any fun d => eqF d e
  | _, _, .nil, _ => rfl
  | _, _, .cons h r, f => by
    rw [List.all_cons, Bool.and_eq_true] at f
    unfold inV
    rw [List.any_cons, List.any_cons, eqF_V h h' f.1 f']
    congr 1
    exact inF_V h' f' r f.2
def fInB (neg : Bool) : F2 := fun x y q => match y with
  | .lst ds => x.flat = true ∧ ds.all D.flat = true ∧ q (.fz (.bl (if neg then !(ds.any fun d => eqF d x) else ds.any fun d => eqF d x)))
  | .frl ds => x.flat = true ∧ ds.all D.flat = true ∧ q (.fz (.bl (if neg then !(ds.any fun d => eqF d x) else ds.any fun d => eqF d x)))
  | .tup ds => x.flat = true ∧ ds.all D.flat = true ∧ q (.fz (.bl (if neg then !(ds.any fun d => eqF d x) else ds.any fun d => eqF d x)))
  | .str z => match x with
    | .str w => ∃ c, w = ⟨#[c]⟩ ∧ q (.fz (.bl (if neg then !decide (c ∈ z.cps.toList) else decide (c ∈ z.cps.toList))))
    | _ => False
  | _ => False
def rInAll (K : PySem.W.Frag) : R2 := fun x y H Q => rIn K false x y H Q ∨ (fun x y H Q => ∃ (c : Nat) (z : Str), x = .str ⟨#[c]⟩ ∧ y = .str z ∧ Q (.bl (decide (c ∈ z.cps.toList))) H) x y H Q
def rNotInAll (K : PySem.W.Frag) : R2 := fun x y H Q => rIn K true x y H Q ∨ (fun x y H Q => ∃ (c : Nat) (z : Str), x = .str ⟨#[c]⟩ ∧ y = .str z ∧ Q (.bl (!decide (c ∈ z.cps.toList))) H) x y H Q
theorem rule_in {K : PySem.W.Frag} : Rule2 K (rInAll K) (fInB false) := by
  intro U H v1 v2 d1 d2 Q q hU h1 h2 hf k
  cases d2 <;> first | exact hf.elim | skip
  · cases d1 <;> first | exact hf.elim | skip
    obtain ⟨c, rfl, hq⟩ := hf
    cases h1
    cases h2
    exact .inr ⟨c, _, rfl, rfl, k _ H (.fz (.bl _)) (Same.refl H) (.bl _) hq⟩
  · cases h2 with
    | lst h s => exact .inl ⟨_, _, rfl, .inl (.inl (.inl (off_in _ _ h))), h1.flat hf.1, s.flat hf.2.1, k _ H (.fz (.bl _)) (Same.refl H) (by rw [inF_V h1 hf.1 s hf.2.1]; exact .bl _) hf.2.2⟩
  · cases h2 with
    | frl h s => exact .inl ⟨_, _, rfl, .inl (off_in.seq h), h1.flat hf.1, s.flat hf.2.1, k _ H (.fz (.bl _)) (Same.refl H) (by rw [inF_V h1 hf.1 s hf.2.1]; exact .bl _) hf.2.2⟩
  · cases h2 with
    | tup h s => exact .inl ⟨_, _, rfl, .inr (seqT off_in h), h1.flat hf.1, s.flat hf.2.1, k _ H (.fz (.bl _)) (Same.refl H) (by rw [inF_V h1 hf.1 s hf.2.1]; exact .bl _) hf.2.2⟩
theorem rule_notin {K : PySem.W.Frag} : Rule2 K (rNotInAll K) (fInB true) := by
  intro U H v1 v2 d1 d2 Q q hU h1 h2 hf k
  cases d2 <;> first | exact hf.elim | skip
  · cases d1 <;> first | exact hf.elim | skip
    obtain ⟨c, rfl, hq⟩ := hf
    cases h1
    cases h2
    exact .inr ⟨c, _, rfl, rfl, k _ H (.fz (.bl _)) (Same.refl H) (.bl _) hq⟩
  · cases h2 with
    | lst h s => exact .inl ⟨_, _, rfl, .inl (.inl (.inl (off_in _ _ h))), h1.flat hf.1, s.flat hf.2.1, k _ H (.fz (.bl _)) (Same.refl H) (by rw [inF_V h1 hf.1 s hf.2.1]; exact .bl _) hf.2.2⟩
  · cases h2 with
    | frl h s => exact .inl ⟨_, _, rfl, .inl (off_in.seq h), h1.flat hf.1, s.flat hf.2.1, k _ H (.fz (.bl _)) (Same.refl H) (by rw [inF_V h1 hf.1 s hf.2.1]; exact .bl _) hf.2.2⟩
  · cases h2 with
    | tup h s => exact .inl ⟨_, _, rfl, .inr (seqT off_in h), h1.flat hf.1, s.flat hf.2.1, k _ H (.fz (.bl _)) (Same.refl H) (by rw [inF_V h1 hf.1 s hf.2.1]; exact .bl _) hf.2.2⟩
theorem op_inAll : OpR X (compareOp .In) (rInAll X.K) := op_in_seq.or op_in_sign
theorem op_notInAll : OpR X (compareOp .NotIn) (rNotInAll X.K) := op_notIn_seq.or op_notIn_sign
noncomputable def de_in (ha : DE X W a ta) (hb : DE X W b tb) (hm : behindInMarks .In b = false := by rfl) : DE X W (.Compare a [.In] [b] pos) (r2 (fInB false) ta tb) := de_cmp op_inAll rule_in hm ha hb
noncomputable def de_notin (ha : DE X W a ta) (hb : DE X W b tb) (hm : behindInMarks .NotIn b = false := by rfl) : DE X W (.Compare a [.NotIn] [b] pos) (r2 (fInB true) ta tb) := de_cmp op_notInAll rule_notin hm ha hb

/-! ### a place -/
@[simp] def fIx : F2 := fun x y q => match x, y with
  | .lst ds, .int i => ∃ d, atI ds i = some d ∧ q (.fz d)
  | .frl ds, .int i => ∃ d, atI ds i = some d ∧ q (.fz d)
  | .tup ds, .int i => ∃ d, atI ds i = some d ∧ q (.fz d)
  | .str z, .int i => z.length ≤ sizeLine ∧ ∃ c, atI z.cps.toList i = some c ∧ q (.fz (.str ⟨#[c]⟩))
  | _, _ => False
theorem Rps.atI {K : PySem.W.Frag} {G : Hp} {vs : List V} {ds : List D} {i : Int} {d : D} (r : Rps K G vs ds) (h : L2.atI ds i = some d) : ∃ v, L2.atI vs i = some v ∧ Rp K G v d := by
  unfold L2.atI at h ⊢
  rw [← r.length] at h
  cases e : ixN vs.length i with
  | none => rw [e] at h; cases h
  | some j =>
    rw [e] at h
    exact r.get h
theorem rule_ix {K : PySem.W.Frag} : Rule2 K (rIx K) fIx := by
  intro U H v1 v2 d1 d2 Q q hU h1 h2 hf k
  cases d1 <;> first | (cases d2 <;> exact hf.elim) | skip
  all_goals cases d2 <;> first | exact hf.elim | skip
  all_goals cases h2
  · obtain ⟨hz, c, hc, hq⟩ := hf
    cases h1
    exact .inr (.inr ⟨_, _, c, rfl, rfl, hz, hc, k _ H (.fz (.str _)) (Same.refl H) (.str _) hq⟩)
  · obtain ⟨d, hd, hq⟩ := hf
    cases h1 with
    | lst h s =>
      obtain ⟨v, hv, rv⟩ := s.atI hd
      exact .inl ⟨_, _, _, v, rfl, rfl, .inl (.inl (off_in _ _ h)), hv, k _ H (.fz d) (Same.refl H) rv hq⟩
  · obtain ⟨d, hd, hq⟩ := hf
    cases h1 with
    | frl h s =>
      obtain ⟨v, hv, rv⟩ := s.atI hd
      exact .inl ⟨_, _, _, v, rfl, rfl, off_in.seq h, hv, k _ H (.fz d) (Same.refl H) rv hq⟩
  · obtain ⟨d, hd, hq⟩ := hf
    cases h1 with
    | tup h s =>
      obtain ⟨v, hv, rv⟩ := s.atI hd
      exact .inr (.inl ⟨_, _, _, v, rfl, rfl, seqT off_in h, hv, k _ H (.fz d) (Same.refl H) rv hq⟩)
noncomputable def de_ix (ha : DE X W a ta) (hb : DE X W b tb) (hs : PlainIx b := by exact fun _ _ => rfl) : DE X W (.Subscript a b pos) (r2 fIx ta tb) := by
  obtain ⟨t1, p1, g1⟩ := ha
  obtain ⟨t2, p2, g2⟩ := hb
  exact ⟨_, pe_ix ix_seq p1 p2 hs, ge_op rule_ix g1 g2⟩
end
end Pu
set_option Elab.async false
set_option linter.all false
set_option maxRecDepth 100000
set_option maxHeartbeats 2000000
/-! Pu3: arguments, displays, tests, built-ins, calls, iteration -/
namespace Pu
open PySem PySem.Spec PyProof.Rows L2

section
variable {X : Cx} {W : WX} {e a b c : Expr} {es : List Expr} {ta tb tc te : RE} {ra : RA} {u t : RT} {pos : Pos}
/-! ### arguments and displays -/
@[simp] def rNil : RA := fun _ q _ => q []
@[simp] def rCons (te : RE) (ra : RA) : RA := fun env q x => te env (fun s => ra env (fun ds => q (s.d :: ds)) x) x
noncomputable def da_nil : DA X W [] rNil := ⟨_, pa_nil, fun U env σ H Q q x hE h k hx => k [] H [] (Same.refl H) .nil h⟩
noncomputable def da_cons (he : DE X W e te) (hr : DA X W es ra) (hs : starEach (e :: es) X.env = (false, eval e X.env) :: starEach es X.env := by rfl) : DA X W (e :: es) (rCons te ra) := by
  obtain ⟨t1, p1, g1⟩ := he
  obtain ⟨t2, p2, g2⟩ := hr
  refine ⟨_, pa_cons p1 p2 hs, fun U env σ H Q q x hE h k hx => ?_⟩
  exact ge_d g1 (q := fun d => ra env (fun ds => q (d :: ds)) x) hE h (fun v H1 d e1 r1 h1 => g2 U env σ H1 _ _ x (hE.mono e1) h1 (fun vs H2 ds e2 r2 hq => k _ H2 _ (e1.trans e2) (.cons (r1.mono (off_mono e2)) r2) hq) (hx.next e1)) hx
theorem small_size {n : Nat} (h : n ≤ 16777216) : n ≤ sizeLine := by rw [sizeLine_eq]; exact h
@[simp] def rTup (ra : RA) : RE := fun env q x => ra env (fun ds => ds.length ≤ 16777216 ∧ q (.fz (.tup ds))) x
@[simp] def rLst (ra : RA) : RE := fun env q x => ra env (fun ds => ds.length ≤ 16777216 ∧ q (.ls true ds)) x
noncomputable def de_tup {k} (ha : DA X W es ra) : DE X W (.Tuple es k pos) (rTup ra) := by
  obtain ⟨t, p, g⟩ := ha
  refine ⟨_, pe_tup p, fun U env σ H Q q x hE h k hx => ?_⟩
  refine g U env σ H _ _ x hE h (fun vs H1 ds e1 r1 hq => ⟨small_size (by rw [r1.length]; exact hq.1), fun p np => ?_⟩) hx
  exact k _ _ (.fz (.tup ds)) (e1.trans (same_upd np)) (.tup (seqT_of (off_some.mpr ⟨new_off (fun a u => same_some e1 (hE.1 a u)) np, upd_same⟩)) (r1.mono (off_mono (same_upd np)))) hq.2
noncomputable def de_lst (ha : DA X W es ra) : DE X W (.List es pos) (rLst ra) := by
  obtain ⟨t, p, g⟩ := ha
  refine ⟨_, pe_lst p, fun U env σ H Q q x hE h k hx => ?_⟩
  refine g U env σ H _ _ x hE h (fun vs H1 ds e1 r1 hq => ⟨small_size (by rw [r1.length]; exact hq.1), fun p np => ?_⟩) hx
  exact k _ _ (.ls true ds) (e1.trans (same_upd np)) ⟨p, vs, rfl, rfl, e1.free np, upd_same, r1.mono (off_new (same_upd np) np)⟩ hq.2

/-! ### tests -/
@[simp] def rT (te : RE) : RT := fun env q x => te env (fun s => match s with | .fz (.bl k) => q k | _ => False) x
theorem gt_of {K : PySem.W.Frag} {te : TE} {t : RE} (g : Ge K W te t) : Gt K W (fun σ H Q => te σ H fun v H1 => ∃ k, v = .bl k ∧ Q k H1) (rT t) := fun U env σ H Q q x hE h k hx =>
  g U env σ H _ _ x hE h (fun v H1 s e r z => by
    cases s with
    | ls _ _ => exact z.elim
    | exn _ _ _ _ => exact z.elim
    | fz d =>
      cases d <;> first | exact z.elim | skip
      cases r
      exact ⟨_, rfl, k _ H1 e z⟩) hx
noncomputable def dt_op {op : CmpOp} {r : R2} {f : F2} (ho : OpR X (compareOp op) r) (hr : Rule2 X.K r f) (hm : behindInMarks op b = false) (ha : DE X W a ta) (hb : DE X W b tb) : DT X W (.Compare a [op] [b] pos) (rT (r2 f ta tb)) := by
  obtain ⟨t1, p1, g1⟩ := ha
  obtain ⟨t2, p2, g2⟩ := hb
  exact ⟨_, pt_cmpR ho p1 p2 hm, gt_of (ge_op hr g1 g2)⟩
noncomputable def dt_lt (ha : DE X W a ta) (hb : DE X W b tb) : DT X W (.Compare a [.Lt] [b] pos) (rT (r2 fLt ta tb)) := dt_op op_lt (rule_int0 fun _ _ _ => .bl _) (nomark _) ha hb
noncomputable def dt_le (ha : DE X W a ta) (hb : DE X W b tb) : DT X W (.Compare a [.LtE] [b] pos) (rT (r2 fLe ta tb)) := dt_op op_le (rule_int0 fun _ _ _ => .bl _) (nomark _) ha hb
noncomputable def dt_gt (ha : DE X W a ta) (hb : DE X W b tb) : DT X W (.Compare a [.Gt] [b] pos) (rT (r2 fGt ta tb)) := dt_op op_gt (rule_int0 fun _ _ _ => .bl _) (nomark _) ha hb
noncomputable def dt_ge (ha : DE X W a ta) (hb : DE X W b tb) : DT X W (.Compare a [.GtE] [b] pos) (rT (r2 fGe ta tb)) := dt_op op_ge (rule_int0 fun _ _ _ => .bl _) (nomark _) ha hb
noncomputable def dt_eq (hu : X.A.units + 64 < cLine) (ha : DE X W a ta) (hb : DE X W b tb) : DT X W (.Compare a [.Eq] [b] pos) (rT (r2 fEq ta tb)) := dt_op (op_eqAll hu) rule_eq (nomark _) ha hb
noncomputable def dt_ne (hu : X.A.units + 64 < cLine) (ha : DE X W a ta) (hb : DE X W b tb) : DT X W (.Compare a [.NotEq] [b] pos) (rT (r2 fNe ta tb)) := dt_op (op_neAll hu) rule_ne (nomark _) ha hb
noncomputable def dt_isN (ha : DE X W a ta) (hb : DE X W b tb) : DT X W (.Compare a [.Is] [b] pos) (rT (r2 fIsN ta tb)) := dt_op op_isN rule_isN (nomark _) ha hb
noncomputable def dt_notN (ha : DE X W a ta) (hb : DE X W b tb) : DT X W (.Compare a [.IsNot] [b] pos) (rT (r2 fNotN ta tb)) := dt_op op_notN rule_notN (nomark _) ha hb
noncomputable def dt_in (ha : DE X W a ta) (hb : DE X W b tb) (hm : behindInMarks .In b = false := by rfl) : DT X W (.Compare a [.In] [b] pos) (rT (r2 (fInB false) ta tb)) := dt_op op_inAll rule_in hm ha hb
noncomputable def dt_notin (ha : DE X W a ta) (hb : DE X W b tb) (hm : behindInMarks .NotIn b = false := by rfl) : DT X W (.Compare a [.NotIn] [b] pos) (rT (r2 (fInB true) ta tb)) := dt_op op_notInAll rule_notin hm ha hb
/-- a truth value as a test -/
noncomputable def dt_val (ha : DE X W e te) (he : ∀ whole, isTrue e X.env whole = (do let v ← whole; standAt e.pos; holding [v] (truthy v)) := by intro _; rfl) : DT X W e (rT te) := by
  obtain ⟨t1, p1, g1⟩ := ha
  exact ⟨_, pt_val p1 he, gt_of g1⟩
/-- any value's truth -/
@[simp] def rTru (te : RE) : RT := fun env q x => te env (fun s => match s.d with
  | .non => q false
  | .bl k => q k
  | .int i => q (i != 0)
  | .str z => z.length ≤ 16777216 ∧ q (decide (z.length ≠ 0))
  | .lst ds => q (!ds.isEmpty)
  | .frl ds => q (!ds.isEmpty)
  | .tup ds => q (!ds.isEmpty)
  | .obj _ _ => False) x
theorem isEmpty_len {α β : Type} {xs : List α} {ys : List β} (h : xs.length = ys.length) : (!xs.isEmpty) = !ys.isEmpty := by
  cases xs <;> cases ys <;> first | rfl | (simp at h)
noncomputable def dt_tru (ha : DE X W e te) (he : ∀ whole, isTrue e X.env whole = (do let v ← whole; standAt e.pos; holding [v] (truthy v)) := by intro _; rfl) : DT X W e (rTru te) := by
  obtain ⟨t1, p1, g1⟩ := ha
  refine ⟨_, pt_truth p1 he, fun U env σ H Q q x hE h k hx => ?_⟩
  refine ge_d g1 (q := fun d => match d with | .non => q false | .bl k => q k | .int i => q (i != 0) | .str z => z.length ≤ 16777216 ∧ q (decide (z.length ≠ 0)) | .lst ds => q (!ds.isEmpty) | .frl ds => q (!ds.isEmpty) | .tup ds => q (!ds.isEmpty) | .obj _ _ => False) hE h (fun v H1 d e1 r1 hq => ?_) hx
  cases d <;> first | exact hq.elim | skip
  · cases r1; exact ⟨_, rfl, k _ H1 e1 hq⟩
  · cases r1; exact ⟨_, rfl, k _ H1 e1 hq⟩
  · cases r1; exact ⟨_, rfl, k _ H1 e1 hq⟩
  · cases r1
    refine ⟨_, ⟨small_size hq.1, rfl⟩, k _ H1 e1 ?_⟩
    have z := hq.2
    have e : ∀ n : Nat, decide (n ≠ 0) = (((n : Nat) : Int) != 0) := fun n => by cases n <;> simp <;> omega
    rw [e] at z
    exact z
  · cases r1 with
    | lst h s => exact ⟨_, .inl ⟨_, .inl (.inl (off_in _ _ h)), rfl⟩, k _ H1 e1 (by rw [isEmpty_len s.length]; exact hq)⟩
  · cases r1 with
    | frl h s => exact ⟨_, .inl ⟨_, off_in.seq h, rfl⟩, k _ H1 e1 (by rw [isEmpty_len s.length]; exact hq)⟩
  · cases r1 with
    | tup h s => exact ⟨_, .inr (.inl ⟨_, seqT off_in h, rfl⟩), k _ H1 e1 (by rw [isEmpty_len s.length]; exact hq)⟩
@[simp] def rAnd (t u : RT) : RT := fun env q x => t env (fun k => if k = true then u env q x else q false) x
@[simp] def rOr (t u : RT) : RT := fun env q x => t env (fun k => if k = true then q true else u env q x) x
@[simp] def rNot (t : RT) : RT := fun env q x => t env (fun k => q (!k)) x
noncomputable def dw_one_and (h : DT X W a t) : DW X W (.BoolOp .And [a] pos) t := by
  obtain ⟨t1, p1, g1⟩ := h
  exact ⟨_, pw_and1 p1, g1⟩
noncomputable def dw_one_or (h : DT X W a t) : DW X W (.BoolOp .Or [a] pos) t := by
  obtain ⟨t1, p1, g1⟩ := h
  exact ⟨_, pw_or1 p1, g1⟩
noncomputable def dw_and (h : DT X W a t) (h2 : DW X W (.BoolOp .And (b :: es) pos) u) : DW X W (.BoolOp .And (a :: b :: es) pos) (rAnd t u) := by
  obtain ⟨t1, p1, g1⟩ := h
  obtain ⟨t2, p2, g2⟩ := h2
  refine ⟨_, pw_and p1 p2, fun U env σ H Q q x hE h k hx => ?_⟩
  refine g1 U env σ H _ _ x hE h (fun c H1 e1 hq => ?_) hx
  cases c with
  | true => exact g2 U env σ H1 _ _ x (hE.mono e1) hq (fun c H2 e2 z => k c H2 (e1.trans e2) z) (hx.next e1)
  | false => exact k false H1 e1 hq
noncomputable def dw_or (h : DT X W a t) (h2 : DW X W (.BoolOp .Or (b :: es) pos) u) : DW X W (.BoolOp .Or (a :: b :: es) pos) (rOr t u) := by
  obtain ⟨t1, p1, g1⟩ := h
  obtain ⟨t2, p2, g2⟩ := h2
  refine ⟨_, pw_or p1 p2, fun U env σ H Q q x hE h k hx => ?_⟩
  refine g1 U env σ H _ _ x hE h (fun c H1 e1 hq => ?_) hx
  cases c with
  | false => exact g2 U env σ H1 _ _ x (hE.mono e1) hq (fun c H2 e2 z => k c H2 (e1.trans e2) z) (hx.next e1)
  | true => exact k true H1 e1 hq
noncomputable def dt_w (h : DW X W e t) : DT X W e t := by
  obtain ⟨t1, p1, g1⟩ := h
  exact ⟨_, p1.pt, g1⟩
noncomputable def dt_not (h : DT X W a t) : DT X W (.UnaryOp .Not a pos) (rNot t) := by
  obtain ⟨t1, p1, g1⟩ := h
  refine ⟨_, pt_not p1, fun U env σ H Q q x hE h k hx => ?_⟩
  exact g1 U env σ H _ _ x hE h (fun c H1 e1 hq => k _ H1 e1 hq) hx
/-- and, or, not as values (truth values) -/
@[simp] def rAndV (ta tb : RE) : RE := fun env q x => ta env (fun s => match s with | .fz (.bl k) => (if k = true then tb env q x else q (.fz (.bl false))) | _ => False) x
@[simp] def rOrV (ta tb : RE) : RE := fun env q x => ta env (fun s => match s with | .fz (.bl k) => (if k = true then q (.fz (.bl true)) else tb env q x) | _ => False) x
@[simp] def rNotV (ta : RE) : RE := fun env q x => ta env (fun s => match s with | .fz (.bl k) => q (.fz (.bl (!k))) | _ => False) x
noncomputable def de_one {op} (h : DE X W a ta) : DE X W (.BoolOp op [a] pos) ta := by
  obtain ⟨t1, p1, g1⟩ := h
  exact ⟨_, pe_one p1, g1⟩
noncomputable def de_and (h : DE X W a ta) (h2 : DE X W (.BoolOp .And (b :: es) pos) tb) : DE X W (.BoolOp .And (a :: b :: es) pos) (rAndV ta tb) := by
  obtain ⟨t1, p1, g1⟩ := h
  obtain ⟨t2, p2, g2⟩ := h2
  refine ⟨_, pe_and p1 p2, fun U env σ H Q q x hE h k hx => ?_⟩
  refine g1 U env σ H _ _ x hE h (fun v H1 s e1 r1 hq => ?_) hx
  cases s with
  | ls _ _ => exact hq.elim
  | exn _ _ _ _ => exact hq.elim
  | fz d =>
    cases d <;> first | exact hq.elim | skip
    cases r1
    rename_i c
    refine ⟨c, rfl, ?_⟩
    cases c with
    | true => exact g2 U env σ H1 _ _ x (hE.mono e1) hq (fun v H2 s e2 sv z => k v H2 s (e1.trans e2) (sv.back e1) z) (hx.next e1)
    | false => exact k _ H1 (.fz (.bl false)) e1 (.bl _) hq
noncomputable def de_or (h : DE X W a ta) (h2 : DE X W (.BoolOp .Or (b :: es) pos) tb) : DE X W (.BoolOp .Or (a :: b :: es) pos) (rOrV ta tb) := by
  obtain ⟨t1, p1, g1⟩ := h
  obtain ⟨t2, p2, g2⟩ := h2
  refine ⟨_, pe_or p1 p2, fun U env σ H Q q x hE h k hx => ?_⟩
  refine g1 U env σ H _ _ x hE h (fun v H1 s e1 r1 hq => ?_) hx
  cases s with
  | ls _ _ => exact hq.elim
  | exn _ _ _ _ => exact hq.elim
  | fz d =>
    cases d <;> first | exact hq.elim | skip
    cases r1
    rename_i c
    refine ⟨c, rfl, ?_⟩
    cases c with
    | false => exact g2 U env σ H1 _ _ x (hE.mono e1) hq (fun v H2 s e2 sv z => k v H2 s (e1.trans e2) (sv.back e1) z) (hx.next e1)
    | true => exact k _ H1 (.fz (.bl true)) e1 (.bl _) hq
noncomputable def de_not (h : DE X W a ta) : DE X W (.UnaryOp .Not a pos) (rNotV ta) := by
  obtain ⟨t1, p1, g1⟩ := h
  refine ⟨_, pe_not p1, fun U env σ H Q q x hE h k hx => ?_⟩
  refine g1 U env σ H _ _ x hE h (fun v H1 s e1 r1 hq => ?_) hx
  cases s with
  | ls _ _ => exact hq.elim
  | exn _ _ _ _ => exact hq.elim
  | fz d =>
    cases d <;> first | exact hq.elim | skip
    cases r1
    exact ⟨_, rfl, k _ H1 (.fz (.bl _)) e1 (.bl _) hq⟩
@[simp] def rIf (t : RT) (ta tb : RE) : RE := fun env q x => t env (fun k => if k = true then ta env q x else tb env q x) x
noncomputable def de_if (hc : DT X W c t) (ha : DE X W a ta) (hb : DE X W b tb) : DE X W (.IfExp c a b pos) (rIf t ta tb) := by
  obtain ⟨t0, p0, g0⟩ := hc
  obtain ⟨t1, p1, g1⟩ := ha
  obtain ⟨t2, p2, g2⟩ := hb
  refine ⟨_, pe_ifExp p0 p1 p2, fun U env σ H Q q x hE h k hx => ?_⟩
  refine g0 U env σ H _ _ x hE h (fun c H1 e1 hq => ?_) hx
  cases c with
  | true => exact g1 U env σ H1 _ _ x (hE.mono e1) hq (fun v H2 s e2 sv z => k v H2 s (e1.trans e2) (sv.back e1) z) (hx.next e1)
  | false => exact g2 U env σ H1 _ _ x (hE.mono e1) hq (fun v H2 s e2 sv z => k v H2 s (e1.trans e2) (sv.back e1) z) (hx.next e1)

/-! ### calls by values -/
abbrev FA := List D → (S → Prop) → Prop
def RuleA (K : PySem.W.Frag) (r : List V → Hp → VK → Prop) (f : FA) : Prop := ∀ (U : Addr → Prop) (H : Hp) (vs : List V) (ds : List D) (Q : VK) (q : S → Prop), (∀ a, U a → (H a).isSome = true) → Rps K (off H U) vs ds → f ds q →
  (∀ v H' s, Same H H' → Sv K U H H' v s → q s → Q v H') → r vs H Q
@[simp] def rCall (f : FA) (ra : RA) : RE := fun env q x => ra env (fun ds => f ds q) x
theorem ge_call {K : PySem.W.Frag} {r : List V → Hp → VK → Prop} {f : FA} {ta : TA} (hr : RuleA K r f) (ga : Ga K W ta ra) : Ge K W (fun σ H Q => ta σ H fun vs H1 => r vs H1 Q) (rCall f ra) := fun U env σ H Q q x hE h k hx =>
  ga U env σ H _ _ x hE h (fun vs H1 ds e1 r1 hq => hr U H1 vs ds Q q (fun a u => same_some e1 (hE.1 a u)) r1 hq fun v H2 s e2 sv z => k v H2 s (e1.trans e2) (sv.back e1) z) hx
noncomputable def de_callB {x : Str} {p : Pos} {id : String} {r : List V → Hp → VK → Prop} {f : FA} (hc : CallR X (.builtin id) r) (hr : RuleA X.K r f) (hg : Gl X x) (hm : X.mg x = none) (hv : bootBuiltins x = some (.builtin id)) (ha : DA X W (e :: es) ra) (hn : x ≠ "__name__" := by decide)
    (hdb : (x == ("__debug__" : Str)) = false := by decide) (he : starEach (e :: es) X.env = (false, eval e X.env) :: starEach es X.env := by rfl) (hpl : (backTo pos (starEach es X.env)).any (·.1) = false := by rfl) : DE X W (.Call (.Name x p) (e :: es) [] pos) (rCall f ra) := by
  obtain ⟨t1, p1, g1⟩ := ha
  exact ⟨_, pe_callB hc hg hm hv p1 hn hdb he hpl, ge_call hr g1⟩
noncomputable def de_callT {x : Str} {p : Pos} {T : String} {r : List V → Hp → VK → Prop} {f : FA} (hc : CallR X (.type T) r) (hr : RuleA X.K r f) (hg : Gl X x) (hm : X.mg x = none) (hv : bootBuiltins x = some (.type T)) (ha : DA X W (e :: es) ra) (hn : x ≠ "__name__" := by decide)
    (hdb : (x == ("__debug__" : Str)) = false := by decide) (he : starEach (e :: es) X.env = (false, eval e X.env) :: starEach es X.env := by rfl) (hpl : (backTo pos (starEach es X.env)).any (·.1) = false := by rfl) : DE X W (.Call (.Name x p) (e :: es) [] pos) (rCall f ra) := by
  obtain ⟨t1, p1, g1⟩ := ha
  exact ⟨_, pe_callTy hc hg hm hv p1 hn hdb he hpl, ge_call hr g1⟩
/-- len -/
@[simp] def fLen : FA := fun ds q => match ds with
  | [.lst xs] => q (.fz (.int xs.length))
  | [.frl xs] => q (.fz (.int xs.length))
  | [.tup xs] => q (.fz (.int xs.length))
  | [.str z] => z.length ≤ 16777216 ∧ q (.fz (.int z.length))
  | _ => False
theorem int_of {q : S → Prop} {n m : Nat} (e : n = m) (h : q (.fz (.int (n : Int)))) : q (.fz (.int (m : Int))) := e ▸ h
theorem rule_len {K : PySem.W.Frag} : RuleA K (fun xs H Q => ∃ x n, xs = [x] ∧ LenV K x H n ∧ Q (.int n) H) fLen := by
  intro U H vs ds Q q hU h1 hf k
  unfold fLen at hf
  split at hf
  · cases h1 with
    | cons h n =>
      cases n
      cases h with
      | lst h s => exact ⟨_, _, rfl, .inl ⟨_, .inl (.inl (off_in _ _ h)), rfl⟩, k _ H (.fz (.int _)) (Same.refl H) (.int _) (int_of s.length.symm hf)⟩
  · cases h1 with
    | cons h n =>
      cases n
      cases h with
      | frl h s => exact ⟨_, _, rfl, .inl ⟨_, off_in.seq h, rfl⟩, k _ H (.fz (.int _)) (Same.refl H) (.int _) (int_of s.length.symm hf)⟩
  · cases h1 with
    | cons h n =>
      cases n
      cases h with
      | tup h s => exact ⟨_, _, rfl, .inr ⟨_, seqT off_in h, rfl⟩, k _ H (.fz (.int _)) (Same.refl H) (.int _) (int_of s.length.symm hf)⟩
  · cases h1 with
    | cons h n =>
      cases n
      cases h
      exact ⟨_, _, rfl, ⟨small_size hf.1, rfl⟩, k _ H (.fz (.int _)) (Same.refl H) (.int _) hf.2⟩
  · exact hf.elim
noncomputable def de_len {p : Pos} (hm : X.mg "len" = none) (ha : DA X W [e] ra) (hg : Gl X "len" := by rfl) (he : starEach [e] X.env = (false, eval e X.env) :: starEach [] X.env := by rfl) (hpl : (backTo pos (starEach [] X.env)).any (·.1) = false := by rfl) :
    DE X W (.Call (.Name "len" p) [e] [] pos) (rCall fLen ra) := de_callB call_len rule_len hg hm PySem.boot_len ha (by decide) (by decide) he hpl
/-- int of an int -/
@[simp] def fInt : FA := fun ds q => match ds with
  | [.int i] => q (.fz (.int i))
  | _ => False
theorem rule_int1 {K : PySem.W.Frag} : RuleA K (fun xs H Q => (∃ i, xs = [.int i] ∧ Q (.int i) H) ∨ ∃ k, xs = [.bl k] ∧ Q (.int (if k then 1 else 0)) H) fInt := by
  intro U H vs ds Q q hU h1 hf k
  unfold fInt at hf
  split at hf
  · cases h1 with
    | cons h n =>
      cases n
      cases h
      exact .inl ⟨_, rfl, k _ H (.fz (.int _)) (Same.refl H) (.int _) hf⟩
  · exact hf.elim
theorem boot_int' : bootBuiltins "int" = some (.type "int") := by decide +kernel
noncomputable def de_int1 {p : Pos} (hm : X.mg "int" = none) (ha : DA X W [e] ra) (hg : Gl X "int" := by rfl) (he : starEach [e] X.env = (false, eval e X.env) :: starEach [] X.env := by rfl) (hpl : (backTo pos (starEach [] X.env)).any (·.1) = false := by rfl) :
    DE X W (.Call (.Name "int" p) [e] [] pos) (rCall fInt ra) := de_callT call_int1 rule_int1 hg hm boot_int' ha (by decide) (by decide) he hpl
/-- max, min of two ints -/
@[simp] def fMax : FA := fun ds q => match ds with
  | [.int i, .int j] => q (.fz (.int (if j > i then j else i)))
  | _ => False
@[simp] def fMin : FA := fun ds q => match ds with
  | [.int i, .int j] => q (.fz (.int (if j < i then j else i)))
  | _ => False
theorem rule_max {K : PySem.W.Frag} : RuleA K (fun xs H Q => ∃ i j, xs = [.int i, .int j] ∧ Q (.int (if j > i then j else i)) H) fMax := by
  intro U H vs ds Q q hU h1 hf k
  unfold fMax at hf
  split at hf
  · cases h1 with
    | cons h n =>
      cases n with
      | cons h' n =>
        cases n
        cases h
        cases h'
        exact ⟨_, _, rfl, k _ H (.fz (.int _)) (Same.refl H) (.int _) hf⟩
  · exact hf.elim
theorem rule_min {K : PySem.W.Frag} : RuleA K (fun xs H Q => ∃ i j, xs = [.int i, .int j] ∧ Q (.int (if j < i then j else i)) H) fMin := by
  intro U H vs ds Q q hU h1 hf k
  unfold fMin at hf
  split at hf
  · cases h1 with
    | cons h n =>
      cases n with
      | cons h' n =>
        cases n
        cases h
        cases h'
        exact ⟨_, _, rfl, k _ H (.fz (.int _)) (Same.refl H) (.int _) hf⟩
  · exact hf.elim
theorem boot_max' : bootBuiltins "max" = some (.builtin "max") := by decide +kernel
theorem boot_min' : bootBuiltins "min" = some (.builtin "min") := by decide +kernel
noncomputable def de_max2 {p : Pos} (hc : X.calm = true) (hm : X.mg "max" = none) (ha : DA X W [a, b] ra) (hg : Gl X "max" := by rfl) (he : starEach [a, b] X.env = (false, eval a X.env) :: starEach [b] X.env := by rfl) (hpl : (backTo pos (starEach [b] X.env)).any (·.1) = false := by rfl) :
    DE X W (.Call (.Name "max" p) [a, b] [] pos) (rCall fMax ra) := de_callB (call_max2 hc) rule_max hg hm boot_max' ha (by decide) (by decide) he hpl
noncomputable def de_min2 {p : Pos} (hc : X.calm = true) (hm : X.mg "min" = none) (ha : DA X W [a, b] ra) (hg : Gl X "min" := by rfl) (he : starEach [a, b] X.env = (false, eval a X.env) :: starEach [b] X.env := by rfl) (hpl : (backTo pos (starEach [b] X.env)).any (·.1) = false := by rfl) :
    DE X W (.Call (.Name "min" p) [a, b] [] pos) (rCall fMin ra) := de_callB (call_min2 hc) rule_min hg hm boot_min' ha (by decide) (by decide) he hpl
/-- list(..), tuple(..) of a list or a tuple -/
@[simp] def D.items : D → Option (List D)
  | .lst ds => some ds
  | .frl ds => some ds
  | .tup ds => some ds
  | _ => none
theorem Rp.items {K : PySem.W.Frag} {U : Addr → Prop} {H : Hp} {v : V} {d : D} {ds : List D} (h : Rp K (off H U) v d) (e : d.items = some ds) : ∃ p vs, v = .ref p ∧ (SqL K H p vs ∨ SqT K H p vs) ∧ Rps K (off H U) vs ds := by
  cases h with
  | lst h s => cases e; exact ⟨_, _, rfl, .inl (.inl (.inl (off_in _ _ h))), s⟩
  | frl h s => cases e; exact ⟨_, _, rfl, .inl (off_in.seq h), s⟩
  | tup h s => cases e; exact ⟨_, _, rfl, .inr (seqT off_in h), s⟩
  | _ => cases e
@[simp] def fList : FA := fun ds q => match ds with
  | [d] => ∃ xs, d.items = some xs ∧ q (.ls true xs)
  | _ => False
theorem rule_list {K : PySem.W.Frag} : RuleA K (fun xs H Q => ∃ p ys, xs = [.ref p] ∧ (SqL K H p ys ∨ SqT K H p ys) ∧ ∀ l, H l = none → Q (.ref l) (upd H l (.lst ys))) fList := by
  intro U H vs ds Q q hU h1 hf k
  unfold fList at hf
  split at hf
  · obtain ⟨xs, e, hq⟩ := hf
    cases h1 with
    | cons h n =>
      cases n
      obtain ⟨p, ws, rfl, hs, r⟩ := h.items e
      exact ⟨p, ws, rfl, hs, fun l nl => k _ _ (.ls true xs) (same_upd nl) ⟨l, ws, rfl, rfl, nl, upd_same, r.mono (off_new (same_upd nl) nl)⟩ hq⟩
  · exact hf.elim
theorem boot_list' : bootBuiltins "list" = some (.type "list") := by decide +kernel
theorem boot_tuple' : bootBuiltins "tuple" = some (.type "tuple") := by decide +kernel
noncomputable def de_list {p : Pos} (hm : X.mg "list" = none) (ha : DA X W [e] ra) (hg : Gl X "list" := by rfl) (he : starEach [e] X.env = (false, eval e X.env) :: starEach [] X.env := by rfl) (hpl : (backTo pos (starEach [] X.env)).any (·.1) = false := by rfl) :
    DE X W (.Call (.Name "list" p) [e] [] pos) (rCall fList ra) := de_callT call_list_of rule_list hg hm boot_list' ha (by decide) (by decide) he hpl
@[simp] def fTuple : FA := fun ds q => match ds with
  | [d] => ∃ xs, d.items = some xs ∧ q (.fz (.tup xs))
  | _ => False
theorem rule_tuple {K : PySem.W.Frag} : RuleA K (fun xs H Q => ∃ p ys, xs = [.ref p] ∧ ((SqL K H p ys ∧ ∀ l, H l = none → Q (.ref l) (upd H l (.tup ys))) ∨ (SqT K H p ys ∧ Q (.ref p) H))) fTuple := by
  intro U H vs ds Q q hU h1 hf k
  unfold fTuple at hf
  split at hf
  · obtain ⟨xs, e, hq⟩ := hf
    have mk : ∀ (ws : List V) l, H l = none → Rps K (off H U) ws xs → Q (.ref l) (upd H l (.tup ws)) := fun ws l nl r =>
      k _ _ (.fz (.tup xs)) (same_upd nl) (.tup (seqT_of (off_some.mpr ⟨new_off hU nl, upd_same⟩)) (r.mono (off_mono (same_upd nl)))) hq
    cases h1 with
    | cons h n =>
      cases n
      cases h with
      | lst h s => cases e; exact ⟨_, _, rfl, .inl ⟨.inl (.inl (off_in _ _ h)), fun l nl => mk _ l nl s⟩⟩
      | frl h s => cases e; exact ⟨_, _, rfl, .inl ⟨off_in.seq h, fun l nl => mk _ l nl s⟩⟩
      | tup h s => cases e; exact ⟨_, _, rfl, .inr ⟨seqT off_in h, k _ H (.fz (.tup _)) (Same.refl H) (.tup h s) hq⟩⟩
      | _ => cases e
  · exact hf.elim
noncomputable def de_tuple {p : Pos} (hm : X.mg "tuple" = none) (ha : DA X W [e] ra) (hg : Gl X "tuple" := by rfl) (he : starEach [e] X.env = (false, eval e X.env) :: starEach [] X.env := by rfl) (hpl : (backTo pos (starEach [] X.env)).any (·.1) = false := by rfl) :
    DE X W (.Call (.Name "tuple" p) [e] [] pos) (rCall fTuple ra) := de_callT call_tuple_of rule_tuple hg hm boot_tuple' ha (by decide) (by decide) he hpl
/-- all, any of a list of truth values -/
@[simp] def fAll : FA := fun ds q => match ds with
  | [.lst xs] => ∃ bs : List Bool, xs = bs.map D.bl ∧ q (.fz (.bl (bs.all id)))
  | _ => False
@[simp] def fAny : FA := fun ds q => match ds with
  | [.lst xs] => ∃ bs : List Bool, xs = bs.map D.bl ∧ q (.fz (.bl (bs.any id)))
  | _ => False
theorem rule_all {K : PySem.W.Frag} : RuleA K (L2.rAll K) fAll := by
  intro U H vs ds Q q hU h1 hf k
  unfold fAll at hf
  split at hf
  · obtain ⟨bs, rfl, hq⟩ := hf
    cases h1 with
    | cons h n =>
      cases n
      cases h with
      | lst h s =>
        obtain rfl := s.bls
        exact ⟨_, bs, rfl, .inl (.inl (off_in _ _ h)), k _ H (.fz (.bl _)) (Same.refl H) (.bl _) hq⟩
  · exact hf.elim
theorem rule_any {K : PySem.W.Frag} : RuleA K (L2.rAny K) fAny := by
  intro U H vs ds Q q hU h1 hf k
  unfold fAny at hf
  split at hf
  · obtain ⟨bs, rfl, hq⟩ := hf
    cases h1 with
    | cons h n =>
      cases n
      cases h with
      | lst h s =>
        obtain rfl := s.bls
        exact ⟨_, bs, rfl, .inl (.inl (off_in _ _ h)), k _ H (.fz (.bl _)) (Same.refl H) (.bl _) hq⟩
  · exact hf.elim
theorem boot_all' : bootBuiltins "all" = some (.builtin "all") := by decide +kernel
theorem boot_any' : bootBuiltins "any" = some (.builtin "any") := by decide +kernel
noncomputable def de_all {p : Pos} (hc : X.calm = true) (hm : X.mg "all" = none) (ha : DA X W [e] ra) (hg : Gl X "all" := by rfl) (he : starEach [e] X.env = (false, eval e X.env) :: starEach [] X.env := by rfl) (hpl : (backTo pos (starEach [] X.env)).any (·.1) = false := by rfl) :
    DE X W (.Call (.Name "all" p) [e] [] pos) (rCall fAll ra) := de_callB (cr_all hc) rule_all hg hm boot_all' ha (by decide) (by decide) he hpl
noncomputable def de_any {p : Pos} (hc : X.calm = true) (hm : X.mg "any" = none) (ha : DA X W [e] ra) (hg : Gl X "any" := by rfl) (he : starEach [e] X.env = (false, eval e X.env) :: starEach [] X.env := by rfl) (hpl : (backTo pos (starEach [] X.env)).any (·.1) = false := by rfl) :
    DE X W (.Call (.Name "any" p) [e] [] pos) (rCall fAny ra) := de_callB (cr_any hc) rule_any hg hm boot_any' ha (by decide) (by decide) he hpl
end
end Pu
set_option Elab.async false
set_option linter.all false
set_option maxRecDepth 100000
set_option maxHeartbeats 2000000
/-! Pu4: slices, methods of texts, isinstance, calls of defs, what is walked, targets, comprehensions -/
namespace Pu
open PySem PySem.Spec PyProof.Rows L2

/-! ### slices -/
def cut {α : Type} (xs : List α) (lo hi : Option Int) : List α := (xs.drop (HT.sIx xs.length 0 lo)).take (HT.sIx xs.length xs.length hi - HT.sIx xs.length 0 lo)
theorem Rps.cut {K : PySem.W.Frag} {G : Hp} {vs : List V} {ds : List D} (r : Rps K G vs ds) (lo hi : Option Int) : Rps K G (cutV vs lo hi) (Pu.cut ds lo hi) := by
  unfold cutV Pu.cut
  rw [r.length]
  exact (r.drop _).take _
abbrev RO := Env → (Option Int → Prop) → PX → Prop
def Go (K : PySem.W.Frag) (W : WX) (to : TO) (t : RO) : Prop := ∀ (U : Addr → Prop) (env : Env) (σ : L2.St) (H : Hp) (Q : Option Int → Hp → Prop) (q : Option Int → Prop) (x : PX), En K U H σ env → t env q x →
  (∀ o H', Same H H' → q o → Q o H') → Gx K W U H σ x → to σ H Q
structure DO (X : Cx) (W : WX) (e : Option Expr) (t : RO) where
  to : TO
  p : L2.PO X e to
  g : Go X.K W to t
@[simp] def roNo : RO := fun _ q _ => q none
@[simp] def roSo (te : RE) : RO := fun env q x => te env (fun s => match s.d with | .int i => q (some i) | _ => False) x
section
variable {X : Cx} {W : WX} {e a b c : Expr} {es : List Expr} {ta tb tc te : RE} {ra : RA} {pos p2 : Pos} {lo hi : Option Expr} {tl th : RO}
noncomputable def do_no : DO X W none roNo := ⟨_, po_none, fun U env σ H Q q x hE h k hx => k none H (Same.refl H) h⟩
noncomputable def do_so (h : DE X W e te) : DO X W (some e) (roSo te) := by
  obtain ⟨t1, p1, g1⟩ := h
  refine ⟨_, po_some p1, fun U env σ H Q q x hE h k hx => ?_⟩
  refine ge_d g1 (q := fun d => match d with | .int i => q (some i) | _ => False) hE h (fun v H1 d e1 r1 hq => ?_) hx
  cases d <;> first | exact hq.elim | skip
  cases r1
  exact ⟨_, rfl, k _ H1 e1 hq⟩
@[simp] def fSl (d : D) (lo hi : Option Int) (q : S → Prop) : Prop := match d with
  | .lst ds => q (.ls true (cut ds lo hi))
  | .frl ds => q (.ls true (cut ds lo hi))
  | .tup ds => q (.fz (.tup (cut ds lo hi)))
  | .str z => z.length ≤ 16777216 ∧ q (.fz (.str (cutS z lo hi)))
  | _ => False
@[simp] def rSlice (te : RE) (tl th : RO) : RE := fun env q x => te env (fun s => tl env (fun l => th env (fun u => fSl s.d l u q) x) x) x
def rSlAll (K : PySem.W.Frag) : V → Option Int → Option Int → Hp → VK → Prop := fun x lo hi H Q => rSlL K x lo hi H Q ∨ rSlA K x lo hi H Q ∨ rSlS x lo hi H Q
theorem sl_all : SlR X (rSlAll X.K) := sl_list.or (sl_tupA.or sl_str)
theorem fsl_ok {K : PySem.W.Frag} {U : Addr → Prop} {H : Hp} {v : V} {d : D} {lo hi : Option Int} {Q : VK} {q : S → Prop} (hU : ∀ a, U a → (H a).isSome = true) (r : Rp K (off H U) v d) (h : fSl d lo hi q)
    (k : ∀ v H' s, Same H H' → Sv K U H H' v s → q s → Q v H') : rSlAll K v lo hi H Q := by
  cases d <;> first | exact h.elim | skip
  · cases r
    exact .inr (.inr ⟨_, rfl, small_size h.1, k _ H (.fz (.str _)) (Same.refl H) (.str _) h.2⟩)
  · cases r with
    | lst h1 s => exact .inl ⟨_, _, rfl, .inl (.inl (off_in _ _ h1)), fun p np => k _ _ (.ls true _) (same_upd np) ⟨p, _, rfl, rfl, np, upd_same, (s.cut lo hi).mono (off_new (same_upd np) np)⟩ h⟩
  · cases r with
    | frl h1 s => exact .inl ⟨_, _, rfl, off_in.seq h1, fun p np => k _ _ (.ls true _) (same_upd np) ⟨p, _, rfl, rfl, np, upd_same, (s.cut lo hi).mono (off_new (same_upd np) np)⟩ h⟩
  · cases r with
    | @tup a xs ds h1 s =>
      refine .inr (.inl ⟨_, _, rfl, seqT off_in h1, fun w => ?_, fun _ p np => ?_⟩)
      · refine k _ H (.fz (.tup _)) (Same.refl H) (.tup h1 ?_) h
        have e : ∀ es : List D, xs.length = es.length → Pu.cut es lo hi = es := fun es hl => by
          unfold Pu.cut
          rw [← hl, w.1, w.2, Nat.sub_zero, List.drop_zero, hl, List.take_length]
        rw [e _ s.length]
        exact s
      · exact k _ _ (.fz (.tup _)) (same_upd np) (.tup (seqT_of (off_some.mpr ⟨new_off hU np, upd_same⟩)) ((s.cut lo hi).mono (off_mono (same_upd np)))) h
noncomputable def de_slice (he : DE X W e te) (hl : DO X W lo tl) (hh : DO X W hi th) : DE X W (.Subscript e (.Slice lo hi none p2) pos) (rSlice te tl th) := by
  obtain ⟨t1, p1, g1⟩ := he
  obtain ⟨t2, p2, g2⟩ := hl
  obtain ⟨t3, p3, g3⟩ := hh
  refine ⟨_, pe_slice sl_all p1 p2 p3, fun U env σ H Q q x hE h k hx => ?_⟩
  refine ge_d g1 (q := fun d => tl env (fun l => th env (fun u => fSl d l u q) x) x) hE h (fun v H1 d e1 r1 h1 => ?_) hx
  refine g2 U env σ H1 _ _ x (hE.mono e1) h1 (fun l H2 e2 h2 => ?_) (hx.next e1)
  refine g3 U env σ H2 _ _ x (hE.mono (e1.trans e2)) h2 (fun u H3 e3 h3 => ?_) (hx.next (e1.trans e2))
  have e := (e1.trans e2).trans e3
  exact fsl_ok (fun a u => same_some e (hE.1 a u)) (r1.mono (off_mono (e2.trans e3))) h3 fun v H' s e' sv z => k v H' s (e.trans e') (sv.back e) z
/-- xs[::-1] -/
@[simp] def fRev (d : D) (q : S → Prop) : Prop := match d with
  | .lst ds => q (.ls true ds.reverse)
  | .frl ds => q (.ls true ds.reverse)
  | _ => False
@[simp] def r1 (f : D → (S → Prop) → Prop) (te : RE) : RE := fun env q x => te env (fun s => f s.d q) x
noncomputable def de_rev {k} {p1 p2 p3 : Pos} (he : DE X W e te) : DE X W (.Subscript e (.Slice none none (some (.UnaryOp .USub (.Constant (.int 1) k p1) p2)) p3) pos) (r1 fRev te) := by
  obtain ⟨t1, pp, g1⟩ := he
  refine ⟨_, pe_revL pp, fun U env σ H Q q x hE h k hx => ?_⟩
  refine ge_d g1 (q := fun d => fRev d q) hE h (fun v H1 d e1 r1 hq => ?_) hx
  cases d <;> first | exact hq.elim | skip
  · cases r1 with
    | lst h1 s => exact ⟨_, _, rfl, .inl (.inl (off_in _ _ h1)), fun p np => k _ _ (.ls true _) (e1.trans (same_upd np)) ⟨p, _, rfl, rfl, e1.free np, upd_same, s.reverse.mono (off_new (same_upd np) np)⟩ hq⟩
  · cases r1 with
    | frl h1 s => exact ⟨_, _, rfl, off_in.seq h1, fun p np => k _ _ (.ls true _) (e1.trans (same_upd np)) ⟨p, _, rfl, rfl, e1.free np, upd_same, s.reverse.mono (off_new (same_upd np) np)⟩ hq⟩

/-! ### methods of texts with one argument -/
@[simp] def rM1 (f : Str → D → (S → Prop) → Prop) (to te : RE) : RE := fun env q x => to env (fun s1 => match s1.d with | .str a => te env (fun s2 => f a s2.d q) x | _ => False) x
def RuleM (K : PySem.W.Frag) (r : V → List V → Hp → VK → Prop) (f : Str → D → (S → Prop) → Prop) : Prop := ∀ (U : Addr → Prop) (H : Hp) (a : Str) (w : V) (d : D) (Q : VK) (q : S → Prop), (∀ a, U a → (H a).isSome = true) → Rp K (off H U) w d → f a d q →
  (∀ v H' s, Same H H' → Sv K U H H' v s → q s → Q v H') → r (.str a) [w] H Q
noncomputable def de_m1 {id : String} {name : Str} {apos : Pos} {r : V → List V → Hp → VK → Prop} {f : Str → D → (S → Prop) → Prop} (slot : Slot "str" name id) (ty : typeOf (.builtin id) = pure (.type "method_descriptor")) (rule : MtR X id r) (hr : RuleM X.K r f) (ho : DE X W a ta) (he : DE X W e te)
    (hs : starEach [e] X.env = [(false, eval e X.env)] := by rfl) (hbase : attributeBase a name X.env (eval a X.env) = eval a X.env := by rfl) (hline : (apos.endLine == pos.line) = true := by rfl) :
    DE X W (.Call (.Attribute a name apos) [e] [] pos) (rM1 f ta te) := by
  obtain ⟨t1, p1, g1⟩ := ho
  obtain ⟨t2, p2, g2⟩ := he
  refine ⟨_, pe_m1 slot ty rule p1 p2 hs hbase hline, fun U env σ H Q q x hE h k hx => ?_⟩
  refine ge_d g1 (q := fun d => match d with | .str a => te env (fun s2 => f a s2.d q) x | _ => False) hE h (fun v H1 d e1 r1 hq => ?_) hx
  cases d <;> first | exact hq.elim | skip
  cases r1
  refine ⟨⟨_, rfl⟩, ?_⟩
  refine ge_d g2 (q := fun d => f _ d q) (hE.mono e1) hq (fun w H2 d2 e2 r2 hf => ?_) (hx.next e1)
  exact hr U H2 _ w d2 Q q (fun a u => same_some (e1.trans e2) (hE.1 a u)) r2 hf fun v H' s e' sv z => k v H' s ((e1.trans e2).trans e') (sv.back (e1.trans e2)) z
@[simp] def fSplit (a : Str) (d : D) (q : S → Prop) : Prop := match d with
  | .str b => b.length ≠ 0 ∧ a.length + 2 ≤ 16777216 ∧ q (.ls true ((Txt.split a b).map D.str))
  | _ => False
theorem rule_split {K : PySem.W.Frag} : RuleM K (fun x xs H Q => ∃ a b, x = .str a ∧ xs = [.str b] ∧ (b.length == 0) = false ∧ a.length + 2 ≤ sizeLine ∧ rNewStrs (Txt.split a b) H Q) fSplit := by
  intro U H a w d Q q hU h1 hf k
  cases d <;> first | exact hf.elim | skip
  cases h1
  refine ⟨_, _, rfl, rfl, by simpa using hf.1, small_size hf.2.1, fun p np => ?_⟩
  exact k _ _ (.ls true _) (same_upd np) ⟨p, _, rfl, rfl, np, upd_same, Rps.of_strs _⟩ hf.2.2
noncomputable def de_split {apos : Pos} (ho : DE X W a ta) (he : DE X W e te) (hs : starEach [e] X.env = [(false, eval e X.env)] := by rfl) (hbase : attributeBase a "split" X.env (eval a X.env) = eval a X.env := by rfl) (hline : (apos.endLine == pos.line) = true := by rfl) :
    DE X W (.Call (.Attribute a "split" apos) [e] [] pos) (rM1 fSplit ta te) := de_m1 F.slot_str_split F.type_str_split mt_split rule_split ho he hs hbase hline
@[simp] def fFind (a : Str) (d : D) (q : S → Prop) : Prop := match d with
  | .str b => q (.fz (.int (Txt.find a b)))
  | _ => False
theorem rule_find {K : PySem.W.Frag} : RuleM K (fun x xs H Q => ∃ a b, x = .str a ∧ xs = [.str b] ∧ Q (.int (Txt.find a b)) H) fFind := by
  intro U H a w d Q q hU h1 hf k
  cases d <;> first | exact hf.elim | skip
  cases h1
  exact ⟨_, _, rfl, rfl, k _ H (.fz (.int _)) (Same.refl H) (.int _) hf⟩
noncomputable def de_find {apos : Pos} (ho : DE X W a ta) (he : DE X W e te) (hs : starEach [e] X.env = [(false, eval e X.env)] := by rfl) (hbase : attributeBase a "find" X.env (eval a X.env) = eval a X.env := by rfl) (hline : (apos.endLine == pos.line) = true := by rfl) :
    DE X W (.Call (.Attribute a "find" apos) [e] [] pos) (rM1 fFind ta te) := de_m1 F.slot_str_find F.type_str_find mt_find rule_find ho he hs hbase hline
@[simp] def fJoin (a : Str) (d : D) (q : S → Prop) : Prop := ∃ ys : List Str, d.items = some (ys.map D.str) ∧ (ys.map (·.length)).sum + ys.length * a.length ≤ 16777216 ∧ q (.fz (.str (Txt.join a ys)))
theorem rule_join {K : PySem.W.Frag} : RuleM K (fun x xs H Q => ∃ a p, ∃ ys : List Str, x = .str a ∧ xs = [.ref p] ∧ (SqL K H p (ys.map V.str) ∨ SqT K H p (ys.map V.str)) ∧
    (ys.map (·.length)).sum + ys.length * a.length ≤ 16777216 ∧ Q (.str (Txt.join a ys)) H) fJoin := by
  intro U H a w d Q q hU h1 hf k
  obtain ⟨ys, e, hz, hq⟩ := hf
  obtain ⟨p, vs, rfl, hs, r⟩ := h1.items e
  obtain rfl := r.strs
  exact ⟨_, p, ys, rfl, rfl, hs, hz, k _ H (.fz (.str _)) (Same.refl H) (.str _) hq⟩
noncomputable def de_join {apos : Pos} (ho : DE X W a ta) (he : DE X W e te) (hs : starEach [e] X.env = [(false, eval e X.env)] := by rfl) (hbase : attributeBase a "join" X.env (eval a X.env) = eval a X.env := by rfl) (hline : (apos.endLine == pos.line) = true := by rfl) :
    DE X W (.Call (.Attribute a "join" apos) [e] [] pos) (rM1 fJoin ta te) := de_m1 F.slot_str_join F.type_str_join mt_join rule_join ho he hs hbase hline

/-! ### isinstance with a built-in class -/
@[simp] def D.tag : D → Option String
  | .non => some "NoneType"
  | .bl _ => some "bool"
  | .int _ => some "int"
  | .str _ => some "str"
  | .lst _ => some "list"
  | .frl _ => some "list"
  | .tup _ => some "tuple"
  | .obj _ _ => none
theorem Rp.tyx {K : PySem.W.Frag} {G H : Hp} {v : V} {d : D} {t : String} (e : Same G H) (h : Rp K G v d) (ht : d.tag = some t) : TyX K H v (.type t) := by
  cases h with
  | non => cases ht; exact .base .non
  | bl b => cases ht; exact .base (.bl b)
  | int b => cases ht; exact .base (.int b)
  | str b => cases ht; exact .base (.str b)
  | lst h s => cases ht; exact .base (.lst (e _ _ h))
  | frl h s =>
    cases ht
    rcases h with (h | ⟨o, h⟩) | ⟨o, its, n, hk, hc, _⟩
    · exact .base (.lst (e _ _ h))
    · exact .base (.frz (e _ _ h))
    · exact .kList hk hc
  | tup h s =>
    cases ht
    rcases h with (h | ⟨o, h⟩) | ⟨o, its, n, hk, hc, _⟩
    · exact .base (.tup (e _ _ h))
    · exact .fTuple (e _ _ h)
    · exact .kTuple hk hc
  | obj h s => cases ht
@[simp] def fIsi (T : String) (d : D) (q : S → Prop) : Prop := ∃ t k, d.tag = some t ∧ kitB t T = some k ∧ q (.fz (.bl k))
noncomputable def de_isi {x : Str} {T : String} {p pT : Pos} (hm : X.mg "isinstance" = none) (hT : X.mg x = none) (hvT : bootBuiltins x = some (.type T)) (he : DE X W e te) (hg : Gl X "isinstance" := by rfl) (hgT : Gl X x := by rfl) (hnT : x ≠ "__name__" := by decide) (hdT : (x == ("__debug__" : Str)) = false := by decide)
    (h1 : starEach [e, .Name x pT] X.env = (false, eval e X.env) :: starEach [.Name x pT] X.env := by rfl) (h2 : starEach [.Name x pT] X.env = (false, eval (.Name x pT) X.env) :: starEach [] X.env := by rfl)
    (hpl : (backTo pos (starEach [.Name x pT] X.env)).any (·.1) = false := by rfl) : DE X W (.Call (.Name "isinstance" p) [e, .Name x pT] [] pos) (Pu.r1 (fIsi T) te) := by
  obtain ⟨t1, p1, g1⟩ := he
  refine ⟨_, pe_callB call_isi hg hm (by decide +kernel) (pa_cons p1 (pa_cons (pe_bltn (v := .ty T) hgT hT hvT rfl hnT hdT) pa_nil h2) h1) (by decide) (by decide) h1 hpl, fun U env σ H Q q x hE h k hx => ?_⟩
  refine ge_d g1 (q := fun d => fIsi T d q) hE h (fun v H1 d e1 r1 hq => ?_) hx
  obtain ⟨t, b, ht, hk, hq⟩ := hq
  exact ⟨v, _, _, _, b, rfl, .ty T, r1.tyx off_in ht, kit_ty hk, k _ H1 (.fz (.bl b)) e1 (.bl b) hq⟩

/-! ### a def's promise over data, its call -/
abbrev FSp := List D → (S → Prop) → PX → Prop
def spF (K : PySem.W.Frag) (φ : FSp) : Sp := fun vs H Q E => ∃ (U : Addr → Prop) (ds : List D) (q : S → Prop) (x : PX), (∀ a, U a → (H a).isSome = true) ∧ Rps K (off H U) vs ds ∧ φ ds q x ∧
  (∀ v H' s, Same H H' → Sv K U H H' v s → q s → Q v H') ∧ ∀ c fs d H', x c fs → Same H H' → Xv K U H H' d fs → E c d H'
@[simp] def rFn (φ : FSp) (ra : RA) : RE := fun env q x => ra env (fun ds => φ ds q x) x
noncomputable def de_call {x : Str} {p : Pos} {k : Nat} {f : Addr} {fd : FuncData} {ps : List Str} {φ : FSp} (F : FnOk X.prog X.w X.K X.mg X.base (L2.CX X.prog X.w) k f fd ps (spF X.K φ)) (tk : Takes X W) (hr : Room k X.A) (hm : X.mg x = some (.ref f)) (hk : PySem.W.keepIn X.K (.ref f) = true) (hb : Binds X.K fd ps [])
    (ha : DA X W (e :: es) ra) (hg : Gl X x := by rfl) (hdb : (x == ("__debug__" : Str)) = false := by decide) (he : starEach (e :: es) X.env = (false, eval e X.env) :: starEach es X.env := by rfl) (hpl : (backTo pos (starEach es X.env)).any (·.1) = false := by rfl) :
    DE X W (.Call (.Name x p) (e :: es) [] pos) (rFn φ ra) := by
  obtain ⟨t1, p1, g1⟩ := ha
  refine ⟨_, pe_callS F hr hg hm hk hb (fun σ => passAt tk σ) p1 hdb he hpl, fun U env σ H Q q x hE h k hx => ?_⟩
  refine g1 U env σ H _ _ x hE h (fun vs H1 ds e1 r1 hq => ?_) hx
  exact ⟨U, ds, q, x, fun a u => same_some e1 (hE.1 a u), r1, hq, fun v H' s e' sv z => k v H' s (e1.trans e') (sv.back e1) z, fun c fs d H' hc e' hv => hx c fs d H' hc (e1.trans e') (hv.back e1)⟩

/-! ### what is walked -/
abbrev RI := Env → (List D → Prop) → PX → Prop
def ItD (K : PySem.W.Frag) (G : Hp) (J : It) (ds : List D) : Prop := ∀ (i : Nat) (H2 : Hp) (U2 : Addr → Prop), Same G (off H2 U2) → (∀ a, U2 a → (H2 a).isSome = true) →
  (∀ d, ds[i]? = some d → J.go i H2 ∧ ∀ v H3, J.yld i H2 v H3 → Same H2 H3 ∧ Rp K (off H3 U2) v d) ∧ (ds.length ≤ i → J.stop i H2)
def Gi (K : PySem.W.Frag) (W : WX) (wi : TI) (t : RI) : Prop := ∀ (U : Addr → Prop) (env : Env) (σ : L2.St) (H : Hp) (R : It → Hp → Prop) (q : List D → Prop) (x : PX), En K U H σ env → t env q x →
  (∀ J H' ds, Same H H' → ItD K (off H' U) J ds → q ds → R J H') → Gx K W U H σ x → wi σ H R
structure DI (X : Cx) (W : WX) (tg iter : Expr) (t : RI) where
  wi : TI
  p : L2.PI X tg iter wi
  g : Gi X.K W wi t
/-- a list or a tuple -/
def iSeq (K : PySem.W.Frag) (tl : TE) : TI := fun σ H R => tl σ H fun x H1 => ∃ a, x = .ref a ∧ (((∃ xs, SqL K H1 a xs) ∧ R (Itl K a) H1) ∨ ((∃ xs, SqT K H1 a xs) ∧ R (Itt K a) H1))
theorem pi_seq {tg l : Expr} {tl : TE} (hl : L2.PE X l tl) : L2.PI X tg l (iSeq X.K tl) := by
  constructor
  intro pins s σ H R I h
  have hv := hl.run pins s σ H _ I h
  refine thn hv ?_
  rintro v s1 ⟨_, H1, I1, r1, a, rfl, h1⟩
  cases r1
  have new : ∀ b, b ∈ [s1.heap.objs.size] → FpOk X pins H1 b := by
    intro b hb
    rw [List.mem_singleton] at hb
    rw [hb]
    exact I1.fpOk (Nat.le_refl _) (I1.hok.fresh (Nat.le_refl _))
  rcases h1 with ⟨⟨xs, hq⟩, q⟩ | ⟨⟨xs, hq⟩, q⟩
  · obtain ⟨its, rv, p, hz⟩ := I1.list hq
    refine wpAny_pyIter_list p.isList ?_
    have I2 := I1.kept (t' := s1.toks) (fun b o e => Heap.get?_push_of_some { cls := .type "list_iterator", data := .fields #[.ref a, rawInt 0] } e)
    exact ⟨_, _, _, _, _, rfl, I1.kept (t' := s1.toks) (fun b o e => Heap.get?_push_of_some _ e), turn_list a _, ⟨_, Heap.get?_push_size _ rfl, rfl, rfl⟩, new, q⟩
  · obtain ⟨its, rv, p, hz⟩ := I1.tuple hq
    refine wpAny_pyIter_tuple (show s1.heap.IsTuple a its.toArray from p) ?_
    exact ⟨_, _, _, _, _, rfl, I1.kept (t' := s1.toks) (fun b o e => Heap.get?_push_of_some _ e), turn_tuple a _, ⟨_, Heap.get?_push_size _ rfl, rfl, rfl⟩, new, q⟩
@[simp] def riSeq (te : RE) : RI := fun env q x => te env (fun s => ∃ ds, s.d.items = some ds ∧ q ds) x
theorem seqL_inj {K : PySem.W.Frag} {G H : Hp} {a : Addr} {xs : List V} (e : Same G H) (h : SqL K G a xs) : SqL K H a xs := e.seq h
noncomputable def di_seq {tg : Expr} (he : DE X W e te) : DI X W tg e (riSeq te) := by
  obtain ⟨t1, p1, g1⟩ := he
  refine ⟨_, pi_seq p1, fun U env σ H R q x hE h k hx => ?_⟩
  refine ge_d g1 (q := fun d => ∃ ds, d.items = some ds ∧ q ds) hE h (fun v H1 d e1 r1 hq => ?_) hx
  obtain ⟨ds, hi, hq⟩ := hq
  have lst : ∀ (a : Addr) (xs : List V), SqL X.K (off H1 U) a xs → Rps X.K (off H1 U) xs ds → ItD X.K (off H1 U) (Itl X.K a) ds := by
    intro a xs hs s i H2 U2 e2 hU2
    refine ⟨fun d hd => ?_, fun hl => ⟨xs, off_in.seq (e2.seq hs), by rw [s.length]; exact hl⟩⟩
    obtain ⟨w, hw, rw'⟩ := s.get hd
    refine ⟨⟨xs, w, off_in.seq (e2.seq hs), hw⟩, fun v H3 y => ?_⟩
    obtain ⟨rfl, y⟩ := y
    have z := y xs (off_in.seq (e2.seq hs))
    rw [hw] at z
    cases z
    exact ⟨Same.refl _, rw'.mono e2⟩
  have tup : ∀ (a : Addr) (xs : List V), SqT X.K (off H1 U) a xs → Rps X.K (off H1 U) xs ds → ItD X.K (off H1 U) (Itt X.K a) ds := by
    intro a xs hs s i H2 U2 e2 hU2
    refine ⟨fun d hd => ?_, fun hl => ⟨xs, seqT off_in (seqT e2 hs), by rw [s.length]; exact hl⟩⟩
    obtain ⟨w, hw, rw'⟩ := s.get hd
    refine ⟨⟨xs, w, seqT off_in (seqT e2 hs), hw⟩, fun v H3 y => ?_⟩
    obtain ⟨rfl, y⟩ := y
    have z := y xs (seqT off_in (seqT e2 hs))
    rw [hw] at z
    cases z
    exact ⟨Same.refl _, rw'.mono e2⟩
  cases r1 with
  | lst h1 s => cases hi; exact ⟨_, rfl, .inl ⟨⟨_, .inl (.inl (off_in _ _ h1))⟩, k _ H1 ds e1 (lst _ _ (.inl (.inl h1)) s) hq⟩⟩
  | frl h1 s => cases hi; exact ⟨_, rfl, .inl ⟨⟨_, off_in.seq h1⟩, k _ H1 ds e1 (lst _ _ h1 s) hq⟩⟩
  | tup h1 s => cases hi; exact ⟨_, rfl, .inr ⟨⟨_, seqT off_in h1⟩, k _ H1 ds e1 (tup _ _ h1 s) hq⟩⟩
  | _ => cases hi
/-- a text, sign by sign -/
@[simp] def riStr (te : RE) : RI := fun env q x => te env (fun s => match s.d with | .str z => q (z.cps.toList.map fun c => D.str ⟨#[c]⟩) | _ => False) x
noncomputable def di_str {tg : Expr} (he : DE X W e te) : DI X W tg e (riStr te) := by
  obtain ⟨t1, p1, g1⟩ := he
  refine ⟨_, pi_str p1, fun U env σ H R q x hE h k hx => ?_⟩
  refine ge_d g1 (q := fun d => match d with | .str z => q (z.cps.toList.map fun c => D.str ⟨#[c]⟩) | _ => False) hE h (fun v H1 d e1 r1 hq => ?_) hx
  cases d <;> first | exact hq.elim | skip
  cases r1
  rename_i z
  refine ⟨z, rfl, k _ H1 _ e1 (fun i H2 U2 e2 hU2 => ⟨fun d hd => ?_, fun hl => ?_⟩) hq⟩
  · rw [List.getElem?_map] at hd
    cases hc : z.cps.toList[i]? with
    | none => rw [hc] at hd; cases hd
    | some c =>
      rw [hc] at hd
      cases hd
      have hi := (List.getElem?_eq_some_iff.mp hc).1
      refine ⟨show i < z.cps.size by simpa using hi, fun v H3 y => ?_⟩
      obtain ⟨rfl, c', hc', rfl⟩ := y
      have : c' = c := by
        rw [← Array.getElem?_toList, hc] at hc'
        exact (Option.some.inj hc').symm
      subst this
      exact ⟨Same.refl _, .str _⟩
  · show z.cps.size ≤ i
    simpa using hl
/-- range(n), range(a, b) -/
def rangeD (lo hi : Int) : List D := (List.range (hi - lo).toNat).map fun (i : Nat) => D.int (lo + (i : Int))
theorem itd_range {K : PySem.W.Frag} {G : Hp} {lo hi : Int} : ItD K G (Itr lo (hi - lo).toNat) (rangeD lo hi) := fun i H2 U2 e2 hU2 => by
  unfold rangeD
  refine ⟨fun d hd => ?_, fun hl => show (hi - lo).toNat ≤ i by rw [List.length_map, List.length_range] at hl; exact hl⟩
  rw [List.getElem?_map] at hd
  cases hc : (List.range (hi - lo).toNat)[i]? with
  | none => rw [hc] at hd; cases hd
  | some c =>
    rw [hc] at hd
    cases hd
    have hi' := (List.getElem?_eq_some_iff.mp hc)
    obtain ⟨h1, h2⟩ := hi'
    rw [List.getElem_range] at h2
    subst h2
    refine ⟨show i < (hi - lo).toNat by rw [List.length_range] at h1; exact h1, fun v H3 y => ?_⟩
    obtain ⟨rfl, rfl⟩ := y
    exact ⟨Same.refl _, .int _⟩
@[simp] def riR1 (te : RE) : RI := fun env q x => te env (fun s => match s.d with | .int n => (-(2 ^ 62) ≤ n ∧ n < 2 ^ 62) ∧ q (rangeD 0 n) | _ => False) x
@[simp] def riR2 (ta tb : RE) : RI := fun env q x => ta env (fun s1 => tb env (fun s2 => match s1.d, s2.d with | .int m, .int n => (-(2 ^ 62) ≤ m ∧ m < 2 ^ 62 ∧ -(2 ^ 62) ≤ n ∧ n < 2 ^ 62) ∧ q (rangeD m n) | _, _ => False) x) x
noncomputable def di_r1 {tg : Expr} {p : Pos} (hm : X.mg "range" = none) (he : DE X W e te) (hg : Gl X "range" := by rfl) (hs : starEach [e] X.env = [(false, eval e X.env)] := by rfl) : DI X W tg (.Call (.Name "range" p) [e] [] pos) (riR1 te) := by
  obtain ⟨t1, p1, g1⟩ := he
  refine ⟨_, pi_range1 hg hm (pa_cons p1 pa_nil (by rw [hs]; rfl)) hs, fun U env σ H R q x hE h k hx => ?_⟩
  refine ge_d g1 (q := fun d => match d with | .int n => (-(2 ^ 62) ≤ n ∧ n < 2 ^ 62) ∧ q (rangeD 0 n) | _ => False) hE h (fun v H1 d e1 r1 hq => ?_) hx
  cases d <;> first | exact hq.elim | skip
  cases r1
  rename_i n
  refine ⟨n, rfl, hq.1.1, hq.1.2, ?_⟩
  have z := k (Itr 0 (n - 0).toNat) H1 _ e1 itd_range hq.2
  rw [Int.sub_zero] at z
  exact z
noncomputable def di_r2 {tg : Expr} {p : Pos} (hm : X.mg "range" = none) (ha : DE X W a ta) (hb : DE X W b tb) (hg : Gl X "range" := by rfl) (hs : starEach [a, b] X.env = [(false, eval a X.env), (false, eval b X.env)] := by rfl) (hs2 : starEach [b] X.env = [(false, eval b X.env)] := by rfl) :
    DI X W tg (.Call (.Name "range" p) [a, b] [] pos) (riR2 ta tb) := by
  obtain ⟨t1, p1, g1⟩ := ha
  obtain ⟨t2, p2, g2⟩ := hb
  refine ⟨_, pi_range2 hg hm (pa_cons p1 (pa_cons p2 pa_nil (by rw [hs2]; rfl)) (by rw [hs, hs2])) hs hs2, fun U env σ H R q x hE h k hx => ?_⟩
  refine ge_two g1 g2 (q := fun d1 d2 => match d1, d2 with | .int m, .int n => (-(2 ^ 62) ≤ m ∧ m < 2 ^ 62 ∧ -(2 ^ 62) ≤ n ∧ n < 2 ^ 62) ∧ q (rangeD m n) | _, _ => False) (R := fun v1 v2 H' => ∃ i j : Int, [v1, v2] = [V.int i, V.int j] ∧ (-(2 ^ 62) ≤ i ∧ i < 2 ^ 62 ∧ -(2 ^ 62) ≤ j ∧ j < 2 ^ 62) ∧ R (Itr i (j - i).toNat) H') hE h (fun v1 v2 H1 d1 d2 e1 r1 r2 hq => ?_) hx
  cases d1 <;> first | (cases d2 <;> exact hq.elim) | skip
  cases d2 <;> first | exact hq.elim | skip
  cases r1
  cases r2
  exact ⟨_, _, rfl, hq.1, k _ H1 _ e1 itd_range hq.2⟩

/-! ### targets -/
abbrev RG := D → Env → (Env → Prop) → Prop
abbrev RGs := List D → Env → (Env → Prop) → Prop
def Gg (K : PySem.W.Frag) (is : List Nat) (gt : TG) (g : RG) : Prop := ∀ (G H : Hp) (σ : L2.St) (env : Env) (ps : List (Addr × Bool)) (v : V) (d : D) (Q : L2.St → Hp → Prop) (q : Env → Prop), EnA K H G σ env ps → Rp K G v d → Same G H → g d env q →
  (∀ σ' env' qs, q env' → EnA K H G σ' env' qs → qs.Sublist ps → (∀ vs, (∀ i ∈ is, i ∈ vs) → wipe σ' vs = wipe σ vs) → Q σ' H) → gt v σ H Q
def Ggs (K : PySem.W.Frag) (is : List Nat) (gt : TGs) (g : RGs) : Prop := ∀ (G H : Hp) (σ : L2.St) (env : Env) (ps : List (Addr × Bool)) (vs : List V) (ds : List D) (Q : L2.St → Hp → Prop) (q : Env → Prop), EnA K H G σ env ps → Rps K G vs ds → Same G H → g ds env q →
  (∀ σ' env' qs, q env' → EnA K H G σ' env' qs → qs.Sublist ps → (∀ vs, (∀ i ∈ is, i ∈ vs) → wipe σ' vs = wipe σ vs) → Q σ' H) → gt vs σ H Q
structure DG (X : Cx) (tg : Expr) (is : List Nat) (g : RG) where
  gt : TG
  p : L2.PG X tg gt
  g : Gg X.K is gt g
structure DGs (X : Cx) (ts : List Expr) (is : List Nat) (g : RGs) where
  gt : TGs
  p : L2.PGs X ts gt
  g : Ggs X.K is gt g
theorem wipe_set {σ : L2.St} {i : Nat} {x : Option V} : ∀ {vs : List Nat}, i ∈ vs → wipe (σ.set i x) vs = wipe σ vs
  | [], h => by simp at h
  | v :: vs, h => by
    unfold wipe
    by_cases hi : i ∈ vs
    · rw [wipe_set hi]
    · have e : i = v := by
        rcases List.mem_cons.mp h with z | z
        · exact z
        · exact absurd z hi
      subst e
      have : ∀ (l : List Nat) (τ : L2.St), i ∉ l → wipe (τ.set i x) l = (wipe τ l).set i x := by
        intro l
        induction l with
        | nil => intro τ _; rfl
        | cons j l ih =>
          intro τ hj
          rw [List.mem_cons, not_or] at hj
          unfold wipe
          rw [ih τ hj.2, List.set_comm _ _ hj.1]
      rw [this vs σ hi, List.set_set]
@[simp] def rgName (i : Nat) : RG := fun d env q => q (env.set i (some (.fz d)))
noncomputable def dg_name (i : Nat) {x : Str} (hN : X.N.Nodup) (hi : X.N[i]? = some x := by rfl) (hx : Loc X.env.scope x := by first | exact Or.inl rfl | exact Or.inr rfl) (hf : X.fn x = true ∨ X.env.scope.names.lookup x = some .local := by first | exact .inl rfl | exact .inr rfl | assumption) : DG X (.Name x pos) [i] (rgName i) := by
  refine ⟨_, pg_name hN hi hx hf, fun G H σ env ps v d Q q hA r sm h k => ?_⟩
  obtain ⟨qs, h1, h2⟩ := hA.set (i := i) r
  exact k _ _ qs h h1 h2 fun vs hv => wipe_set (hv i (by simp))
@[simp] def rgNil : RGs := fun ds env q => ds = [] ∧ q env
@[simp] def rgCons (g : RG) (gs : RGs) : RGs := fun ds env q => match ds with | d :: r => g d env (fun env' => gs r env' q) | [] => False
noncomputable def dgs_nil : DGs X [] [] rgNil := by
  refine ⟨_, pgs_nil, fun G H σ env ps vs ds Q q hA r sm h k => ?_⟩
  obtain ⟨e, h⟩ := h
  subst e
  cases r
  exact ⟨rfl, k _ _ ps h hA (List.Sublist.refl _) fun _ _ => rfl⟩
noncomputable def dgs_cons {i1 i2 : List Nat} {g : RG} {gs : RGs} (h1 : DG X e i1 g) (h2 : DGs X es i2 gs) (hs : (assignEach (e :: es) X.env).map (·.2) = assign e X.env :: (assignEach es X.env).map (·.2) := by rfl) : DGs X (e :: es) (i1 ++ i2) (rgCons g gs) := by
  obtain ⟨t1, p1, g1⟩ := h1
  obtain ⟨t2, p2, g2⟩ := h2
  refine ⟨_, pgs_cons p1 p2 hs, fun G H σ env ps vs ds Q q hA r sm h k => ?_⟩
  cases r with
  | nil => exact h.elim
  | cons r rr =>
    refine ⟨_, _, rfl, g1 G H σ env ps _ _ _ _ hA r sm h fun σ' env' qs hq hA' hs' hw => ?_⟩
    refine g2 G H σ' env' qs _ _ _ _ hA' rr sm hq fun σ2 env2 q2 hq2 hA2 hs2 hw2 => ?_
    exact k σ2 env2 q2 hq2 hA2 (hs2.trans hs') fun vs hv => (hw2 vs fun i hi => hv i (List.mem_append_right _ hi)).trans (hw vs fun i hi => hv i (List.mem_append_left _ hi))
@[simp] def rgTup (n : Nat) (gs : RGs) : RG := fun d env q => match d with | .tup ds => ds.length = n ∧ gs ds env q | _ => False
noncomputable def dg_tup {k : Nat} {is : List Nat} {gs : RGs} {n : Nat} (hc : X.calm = true) (h : DGs X es is gs) (hn : (assignEach es X.env).length = n := by rfl) (hst : (assignEach es X.env).findIdx? (·.1) = none := by rfl) : DG X (.Tuple es k pos) is (rgTup n gs) := by
  obtain ⟨t1, p1, g1⟩ := h
  refine ⟨_, pg_tup hc p1 hn hst, fun G H σ env ps v d Q q hA r sm h k => ?_⟩
  cases d <;> first | exact h.elim | skip
  cases r with
  | tup ht s => exact ⟨_, _, rfl, seqT sm ht, by rw [s.length]; exact h.1, g1 G H σ env ps _ _ _ _ hA s sm h.2 k⟩

/-! ### comprehensions -/
@[simp] def wipeE (env : Env) : List Nat → Env
  | [] => env
  | v :: vs => (wipeE env vs).set v none
theorem EnA.wipe {K : PySem.W.Frag} {H G : Hp} {σ : L2.St} {env : Env} {ps : List (Addr × Bool)} (h : EnA K H G σ env ps) : ∀ vs : List Nat, ∃ qs, EnA K H G (L2.wipe σ vs) (wipeE env vs) qs ∧ qs.Sublist ps
  | [] => ⟨ps, h, List.Sublist.refl _⟩
  | v :: vs => by
    obtain ⟨qs, h1, h2⟩ := EnA.wipe h vs
    obtain ⟨q2, h3, h4⟩ := h1.none (i := v) Option.none
    exact ⟨q2, h3, h4.trans h2⟩
/-- the turns of a comprehension: what is made, from what is still to be walked -/
def lcF (g : RG) (tt : RT) (te : RE) (env : Env) : List D → List D → (List D → Prop) → Prop
  | [], acc, q => q acc
  | d :: ds, acc, q => g d env fun env2 => tt env2 (fun b => if b = true then te env2 (fun s => acc.length < 16777216 ∧ lcF g tt te env ds (acc ++ [s.d]) q) (fun _ _ => False) else lcF g tt te env ds acc q) fun _ _ => False
@[simp] def rLc (it : RI) (g : RG) (tt : RT) (te : RE) (vs : List Nat) : RE := fun env q x => it env (fun ds => lcF g tt te (wipeE env vs) ds [] fun acc => q (.ls true acc)) x
abbrev WF : WX := fun _ _ _ _ => False
/-- tests of a comprehension -/
structure DTs (X : Cx) (ifs : List Expr) (t : RT) where
  tt : TT
  p : L2.PTs X ifs tt
  g : Gt X.K WF tt t
@[simp] def rYes : RT := fun _ q _ => q true
noncomputable def dts_nil : DTs X [] rYes := ⟨_, pts_nil, fun U env σ H Q q x hE h k hx => k true H (Same.refl H) h⟩
noncomputable def dts_one {t : RT} (h : DT X WF e t) : DTs X [e] t := by
  obtain ⟨t1, p1, g1⟩ := h
  exact ⟨_, pts_one p1, g1⟩
theorem ge_lc {K : PySem.W.Frag} {wi : TI} {gt : TG} {tt : TT} {te : TE} {it : RI} {g : RG} {t : RT} {e : RE} {is vs : List Nat} (hi : Gi K W wi it) (hg : Gg K is gt g) (ht : Gt K WF tt t) (he : Ge K WF te e) (his : ∀ i ∈ is, i ∈ vs) :
    Ge K W (tLc wi gt tt te vs) (rLc it g t e vs) := by
  intro U env σ H Q q x hE h k hx
  refine hi U env σ H _ _ x hE h (fun J H1 ds e1 hJ hq => ?_) hx
  intro D hD
  have hE1 := hE.mono e1
  have hU1 := hE1.1
  refine ⟨fun i m H2 => m = ds.length - i ∧ i ≤ ds.length ∧ Same H1 H2 ∧ ∃ accV accD, H2 D = some (.lst accV) ∧ Rps K (off H2 fun a => U a ∨ a = D) accV accD ∧ lcF g t e (wipeE env vs) (ds.drop i) accD fun acc => q (.ls true acc),
    ⟨_, rfl, Nat.zero_le _, same_upd hD, [], [], upd_same, .nil, hq⟩, ?_⟩
  rintro i m H2 ⟨rfl, hi, sm, accV, accD, hacc, racc, hl⟩
  have nDU : ¬ U D := new_off hU1 hD
  have hU2 : ∀ a, (U a ∨ a = D) → (H2 a).isSome = true := fun a z => z.elim (fun u => same_some sm (hU1 a u)) fun u => by rw [u, hacc]; rfl
  have sG : Same (off H1 U) (off H2 fun a => U a ∨ a = D) := off_new sm hD
  obtain ⟨j1, j2⟩ := hJ i H2 (fun a => U a ∨ a = D) sG hU2
  by_cases hlt : i < ds.length
  · obtain ⟨d, hd⟩ : ∃ d, ds[i]? = some d := ⟨_, List.getElem?_eq_getElem hlt⟩
    obtain ⟨j3, j4⟩ := j1 d hd
    have hdrop : ds.drop i = d :: ds.drop (i + 1) := by
      obtain ⟨_, z⟩ := List.getElem?_eq_some_iff.mp hd
      rw [List.drop_eq_getElem_cons hlt, z]
    rw [hdrop] at hl
    refine .inr ⟨j3, fun H' => Same H1 H' ∧ ∃ accV accD, H' D = some (.lst accV) ∧ Rps K (off H' fun a => U a ∨ a = D) accV accD ∧ lcF g t e (wipeE env vs) (ds.drop (i + 1)) accD fun acc => q (.ls true acc),
      fun H' z => ⟨_, by omega, rfl, hlt, z⟩, fun v H3 y => ?_⟩
    obtain ⟨s3, r3⟩ := j4 v H3 y
    have sm3 := sm.trans s3
    have sG3 : Same (off H1 U) (off H3 fun a => U a ∨ a = D) := off_new sm3 hD
    obtain ⟨_, ps, hA, hps⟩ := id hE1
    obtain ⟨qs, hW, hsub⟩ := (hA.mono sm3 sG3).wipe vs
    have hl' : g d (wipeE env vs) fun env2 => t env2 (fun b => if b = true then e env2 (fun s => accD.length < 16777216 ∧ lcF g t e (wipeE env vs) (ds.drop (i + 1)) (accD ++ [s.d]) fun acc => q (.ls true acc)) (fun _ _ => False) else lcF g t e (wipeE env vs) (ds.drop (i + 1)) accD fun acc => q (.ls true acc)) fun _ _ => False := hl
    refine hg _ H3 _ _ qs v d _ _ hW r3 off_in hl' fun σ' env' q2 hq2 hA2 hs2 hw2 => ⟨?_, ?_⟩
    · have e1 := hw2 vs his
      have e2 : ∀ (l : List Nat) (τ : L2.St), L2.wipe (L2.wipe τ l) l = L2.wipe τ l := by
        intro l τ
        have : ∀ (l' : List Nat), (∀ i ∈ l', i ∈ l) → L2.wipe (L2.wipe τ l) l' = L2.wipe τ l := by
          intro l'
          induction l' with
          | nil => intro _; rfl
          | cons j l' ih =>
            intro hj
            have e : L2.wipe (L2.wipe τ l) (j :: l') = (L2.wipe (L2.wipe τ l) l').set j none := rfl
            rw [e, ih fun i hi => hj i (List.mem_cons_of_mem _ hi)]
            have hj' := hj j List.mem_cons_self
            clear ih hj e
            induction l with
            | nil => simp at hj'
            | cons i l ih =>
              have e : L2.wipe τ (i :: l) = (L2.wipe τ l).set i none := rfl
              rw [e]
              by_cases hij : j = i
              · rw [hij, List.set_set]
              · rw [List.set_comm _ _ (Ne.symm hij), ih (by rcases List.mem_cons.mp hj' with z | z; exact absurd z hij; exact z)]
        exact this l fun i hi => hi
      rw [e1, e2]
    · have hU3 : ∀ a, (U a ∨ a = D) → (H3 a).isSome = true := fun a z => same_some s3 (hU2 a z)
      have hE3 : En K (fun a => U a ∨ a = D) H3 σ' env' := ⟨hU3, q2, hA2, fun p hp => .inl (hps p (hsub.subset (hs2.subset hp)))⟩
      have noX : ∀ {H : Hp} {τ : L2.St}, Gx K WF (fun a => U a ∨ a = D) H τ (fun _ _ => False) := fun c fs d H' z _ _ => z
      refine ht _ env' σ' H3 _ _ (fun _ _ => False) hE3 hq2 (fun b H4 e4 hb => ?_) noX
      have sm4 := sm3.trans e4
      cases b with
      | true =>
        have hb' : e env' (fun s => accD.length < 16777216 ∧ lcF g t e (wipeE env vs) (ds.drop (i + 1)) (accD ++ [s.d]) fun acc => q (.ls true acc)) fun _ _ => False := hb
        show te σ' H4 _
        refine he _ env' σ' H4 _ _ _ (hE3.mono e4) hb' (fun w H5 s e5 sv hs => ?_) noX
        have sd := sv.fz (fun a z => same_some e4 (hU3 a z))
        have sm25 := (s3.trans e4).trans e5
        have hD5 : H5 D = some (.lst accV) := sm25 _ _ hacc
        refine ⟨accV, hD5, ?_, ?_, accV ++ [w], accD ++ [s.d], upd_same, ?_, hs.2⟩
        · rw [racc.length, sizeLine_eq]
          exact hs.1
        · intro a o ha
          have : a ≠ D := ne_of_none ha hD
          rw [upd_ne this]
          exact (sm4.trans e5) _ _ ha
        · rw [off_upd (.inr rfl)]
          exact (racc.mono (off_mono sm25)).append (.cons sd .nil)
      | false =>
        show Same H1 H4 ∧ _
        exact ⟨sm4, accV, accD, (s3.trans e4) _ _ hacc, racc.mono (off_mono (s3.trans e4)), hb⟩
  · have hge : ds.length ≤ i := Nat.le_of_not_lt hlt
    rw [List.drop_eq_nil_of_le hge] at hl
    refine .inl ⟨j2 hge, k _ H2 (.ls true accD) (e1.trans sm) ⟨D, accV, rfl, rfl, e1.free hD, hacc, racc⟩ hl⟩
noncomputable def de_lc {tg iter elt : Expr} {ifs : List Expr} {scope : Scope} {it : RI} {g : RG} {t : RT} {is : List Nat} (own : List (Str × Nat)) (hc : X.calm = true) (hN : X.N.Nodup) (hi : DI X W tg iter it) (ok : blkC X.N X.env.scope scope own = true)
    (hg : ∀ (s : Shared) (H : Hp) (C : Addr) (cl : List (Str × Addr)) (fp : List Addr), DG (X.blk s H scope (compEnvC scope cl C X.env) fp) tg is g) (ht : ∀ (s : Shared) (H : Hp) (C : Addr) (cl : List (Str × Addr)) (fp : List Addr), DTs (X.blk s H scope (compEnvC scope cl C X.env) fp) ifs t)
    (he : ∀ (s : Shared) (H : Hp) (C : Addr) (cl : List (Str × Addr)) (fp : List Addr), DE (X.blk s H scope (compEnvC scope cl C X.env) fp) WF elt te) (his : ∀ i ∈ is, i ∈ own.map (·.2) := by decide) (hs : ∀ x, foldedSetIterable iter X.env x = pure x := by intro _; rfl)
    (ug : ∀ s H C cl fp, (hg s H C cl fp).gt = (hg X.s_0 X.H_0 0 [] []).gt := by intros; rfl) (ut : ∀ s H C cl fp, (ht s H C cl fp).tt = (ht X.s_0 X.H_0 0 [] []).tt := by intros; rfl) (ue : ∀ s H C cl fp, (he s H C cl fp).te = (he X.s_0 X.H_0 0 [] []).te := by intros; rfl) :
    DE X W (.ListComp elt [⟨tg, iter, ifs, 0⟩] scope pos) (rLc it g t te (own.map (·.2))) where
  te := tLc hi.wi (hg X.s_0 X.H_0 0 [] []).gt (ht X.s_0 X.H_0 0 [] []).tt (he X.s_0 X.H_0 0 [] []).te (own.map (·.2))
  p := pe_lc (own := own) hc hN hi.p (blkOk_by ok) (fun s H C cl fp => ug s H C cl fp ▸ (hg s H C cl fp).p) (fun s H C cl fp => ut s H C cl fp ▸ (ht s H C cl fp).p) (fun s H C cl fp => ue s H C cl fp ▸ (he s H C cl fp).p) hs
  g := ge_lc hi.g (hg X.s_0 X.H_0 0 [] []).g (ht X.s_0 X.H_0 0 [] []).g (he X.s_0 X.H_0 0 [] []).g his
end
end Pu
set_option Elab.async false
set_option linter.all false
set_option maxRecDepth 100000
set_option maxHeartbeats 2000000
/-! Pu5: statements over data, defs -/
namespace Pu
open PySem PySem.Spec PyProof.Rows L2

/-- B: what the caller has put off; H0: the heap at the def's entry; M: the caller's lists that the def may change; G0: what stands still -/
structure SnU (K : PySem.W.Frag) (B : Addr → Prop) (H0 : Hp) (M : List Addr) (G0 : Hp) (U : Addr → Prop) (ps : List (Addr × Bool)) (H : Hp) (σ : L2.St) (env : Env) : Prop where
  isS : ∀ a, U a → (H a).isSome = true
  sub : ∀ a, B a → U a
  at_ : EnA K H (off H U) σ env ps
  nd : (ps.map (·.1)).Nodup
  own : ∀ p ∈ ps, U p.1 ∧ (p.2 = true → H0 p.1 = none) ∧ (p.2 = false → p.1 ∈ M)
  keep : ∀ a o, H0 a = some o → a ∉ M → H a = some o
  args : ∀ a ∈ M, (H a).isSome = true
  base : Same G0 (off H U)
def Sn (K : PySem.W.Frag) (B : Addr → Prop) (H0 : Hp) (M : List Addr) (G0 : Hp) (H : Hp) (σ : L2.St) (env : Env) : Prop := ∃ U ps, SnU K B H0 M G0 U ps H σ env
section
variable {K : PySem.W.Frag} {B U : Addr → Prop} {H0 G0 H H1 : Hp} {M : List Addr} {ps : List (Addr × Bool)} {σ : L2.St} {env : Env}
theorem SnU.en (h : SnU K B H0 M G0 U ps H σ env) : En K U H σ env := ⟨h.isS, ps, h.at_, fun p hp => (h.own p hp).1⟩
theorem SnU.grow (e : Same H H1) (h : SnU K B H0 M G0 U ps H σ env) : SnU K B H0 M G0 U ps H1 σ env :=
  ⟨fun a u => same_some e (h.isS a u), h.sub, h.at_.mono e (off_mono e), h.nd, h.own, fun a o h1 h2 => e _ _ (h.keep a o h1 h2), fun a m => same_some e (h.args a m), h.base.trans (off_mono e)⟩
theorem SnU.fresh (h : SnU K B H0 M G0 U ps H σ env) {p : Addr} (n : H p = none) : H0 p = none := by
  cases e : H0 p with
  | none => rfl
  | some o =>
    by_cases m : p ∈ M
    · have := h.args p m
      rw [n] at this
      cases this
    · rw [h.keep p o e m] at n
      cases n
theorem SnU.sv (h : SnU K B H0 M G0 U ps H σ env) {H' : Hp} {v : V} {s : S} (r : Sv K U H H' v s) : Sv K B H0 H' v s := by
  cases s with
  | fz d => exact Rp.mono (off_sub h.sub) r
  | ls b ds =>
    obtain ⟨p, vs, q0, q1, n, q2, q3⟩ := r
    exact ⟨p, vs, q0, q1, h.fresh n, q2, q3.mono (off_sub fun a z => z.imp (h.sub a) id)⟩
  | exn _ _ _ _ => exact r.elim
theorem SnU.sn (h : SnU K B H0 M G0 U ps H σ env) : Sn K B H0 M G0 H σ env := ⟨U, ps, h⟩
theorem Sn.grow (e : Same H H1) (h : Sn K B H0 M G0 H σ env) : Sn K B H0 M G0 H1 σ env := let ⟨U, ps, h⟩ := h; ⟨U, ps, h.grow e⟩
theorem SnU.weak {G1 : Hp} (e : Same G0 G1) (h : SnU K B H0 M G1 U ps H σ env) : SnU K B H0 M G0 U ps H σ env := ⟨h.isS, h.sub, h.at_, h.nd, h.own, h.keep, h.args, e.trans h.base⟩
theorem Sn.weak {G1 : Hp} (e : Same G0 G1) (h : Sn K B H0 M G1 H σ env) : Sn K B H0 M G0 H σ env := let ⟨U, ps, h⟩ := h; ⟨U, ps, ⟨h.isS, h.sub, h.at_, h.nd, h.own, h.keep, h.args, e.trans h.base⟩⟩
/-- slots stored from data, as targets do -/
theorem SnU.slots {σ' : L2.St} {env' : Env} {qs : List (Addr × Bool)} (h : SnU K B H0 M G0 U ps H σ env) (a : EnA K H (off H U) σ' env' qs) (s : qs.Sublist ps) : SnU K B H0 M G0 U qs H σ' env' :=
  ⟨h.isS, h.sub, a, List.Sublist.nodup (s.map _) h.nd, fun p hp => h.own p (s.subset hp), h.keep, h.args, h.base⟩
/-- a value is stored at a slot -/
theorem SnU.set (h : SnU K B H0 M G0 U ps H σ env) (i : Nat) {v : V} {s : S} (e : Same H H1) (r : Sv K U H H1 v s) : Sn K B H0 M G0 H1 (σ.set i (some v)) (env.set i (some s)) := by
  have h1 := h.grow e
  cases s with
  | fz d =>
    obtain ⟨qs, a, b⟩ := h1.at_.set (i := i) (show Rp K _ v d from r)
    exact (h1.slots a b).sn
  | ls b ds =>
    obtain ⟨p, vs, rfl, rfl, n, q2, q3⟩ := r
    have sG : Same (off H U) (off H1 fun a => U a ∨ a = p) := off_new e n
    have hA := h.at_.mono e sG
    have np : ∀ q ∈ ps, q.1 ≠ p := fun q hq z => by
      have := h.isS _ (h.own q hq).1
      rw [z, n] at this
      cases this
    have hs : ∀ a, (U a ∨ a = p) → (H1 a).isSome = true := fun a z => z.elim (h1.isS a) fun z => by rw [z, q2]; rfl
    by_cases hi : i < env.length
    · obtain ⟨qs, a1, a2, a3⟩ := hA.setN (i := i) (b := true) q2 q3 np h.nd hi
      refine ⟨_, qs, hs, fun a z => .inl (h.sub a z), a1, a2, fun q hq => ?_, h1.keep, h1.args, h.base.trans sG⟩
      rcases a3 q hq with z | z
      · subst z
        exact ⟨.inr rfl, fun _ => h.fresh n, fun z => by cases z⟩
      · exact ⟨.inl (h.own q z).1, (h.own q z).2⟩
    · have e1 : env.set i (some (.ls true ds)) = env := List.set_eq_of_length_le (by omega)
      have e2 : σ.set i (some (.ref p)) = σ := List.set_eq_of_length_le (by have := hA.length; omega)
      rw [e1, e2]
      exact ⟨_, ps, hs, fun a z => .inl (h.sub a z), hA, h.nd, fun q hq => ⟨.inl (h.own q hq).1, (h.own q hq).2⟩, h1.keep, h1.args, h.base.trans sG⟩
  | exn _ _ _ _ => exact r.elim
/-- the list at a slot changes -/
theorem SnU.put (h : SnU K B H0 M G0 U ps H σ env) {i : Nat} {p : Addr} {b : Bool} {ds ds' : List D} {vs' : List V} (hi : env[i]? = some (some (.ls b ds))) (hp : σ[i]? = some (some (.ref p))) (hb : (p, b) ∈ ps) (r : Rps K (off H U) vs' ds') :
    SnU K B H0 M G0 U ps (upd H p (.lst vs')) σ (env.set i (some (.ls b ds'))) := by
  have up : U p := (h.own _ hb).1
  have eo : off (upd H p (.lst vs')) U = off H U := off_upd up
  have so : ∀ a, (H a).isSome = true → (upd H p (.lst vs') a).isSome = true := fun a z => by
    by_cases ha : a = p
    · rw [ha, upd_same]; rfl
    · rw [upd_ne ha]; exact z
  refine ⟨fun a u => so a (h.isS a u), h.sub, ?_, h.nd, h.own, fun a o h1 h2 => ?_, fun a m => so a (h.args a m), by rw [eo]; exact h.base⟩
  · rw [eo]
    exact h.at_.put hi hp r h.nd
  · rw [upd_ne]
    · exact h.keep a o h1 h2
    · intro z
      rw [z] at h1 h2
      cases b with
      | true =>
        have := (h.own _ hb).2.1 rfl
        rw [this] at h1
        cases h1
      | false => exact h2 ((h.own _ hb).2.2 rfl)
end
/-- a list of one's own becomes a datum -/
theorem EnA.frz {K : PySem.W.Frag} {H G G' : Hp} {σ : L2.St} {env : Env} {ps : List (Addr × Bool)} {i : Nat} {ds : List D} (h : EnA K H G σ env ps) (e : env[i]? = some (some (.ls true ds))) (nd : (ps.map (·.1)).Nodup) (sm : Same G G') (hG : ∀ p vs, (p, true) ∈ ps → H p = some (.lst vs) → σ[i]? = some (some (.ref p)) → G' p = some (.lst vs)) :
    ∃ qs p, σ[i]? = some (some (.ref p)) ∧ (p, true) ∈ ps ∧ EnA K H G' σ (env.set i (some (.fz (.lst ds)))) qs ∧ qs.Sublist ps ∧ ∀ q ∈ qs, q.1 ≠ p := by
  induction h generalizing i with
  | nil => simp at e
  | non h ih =>
    cases i with
    | zero => simp at e
    | succ i =>
      obtain ⟨qs, p, a1, a2, a3, a4, a5⟩ := ih (i := i) (by simpa using e) nd fun p vs h1 h2 h3 => hG p vs h1 h2 (by simpa using h3)
      exact ⟨qs, p, by simpa using a1, a2, .non a3, a4, a5⟩
  | fz r h ih =>
    cases i with
    | zero => simp at e
    | succ i =>
      obtain ⟨qs, p, a1, a2, a3, a4, a5⟩ := ih (i := i) (by simpa using e) nd fun p vs h1 h2 h3 => hG p vs h1 h2 (by simpa using h3)
      exact ⟨qs, p, by simpa using a1, a2, .fz (r.mono sm) a3, a4, a5⟩
  | exn r h ih =>
    cases i with
    | zero => simp at e
    | succ i =>
      obtain ⟨qs, p, a1, a2, a3, a4, a5⟩ := ih (i := i) (by simpa using e) nd fun p vs h1 h2 h3 => hG p vs h1 h2 (by simpa using h3)
      exact ⟨qs, p, by simpa using a1, a2, .exn (r.mono sm) a3, a4, a5⟩
  | @ls p0 b0 vs0 ds0 σ0 env0 ps0 h1 h2 h ih =>
    rw [List.map_cons, List.nodup_cons] at nd
    cases i with
    | zero =>
      simp at e
      obtain ⟨rfl, rfl⟩ := e
      refine ⟨ps0, p0, rfl, List.mem_cons_self, .fz (.lst (hG p0 vs0 List.mem_cons_self h1 rfl) (h2.mono sm)) (h.mono (Same.refl _) sm), List.sublist_cons_self _ _, fun q hq z => nd.1 (List.mem_map.mpr ⟨q, hq, z⟩)⟩
    | succ i =>
      obtain ⟨qs, p, a1, a2, a3, a4, a5⟩ := ih (i := i) (by simpa using e) nd.2 fun p vs h1 h2 h3 => hG p vs (List.mem_cons_of_mem _ h1) h2 (by simpa using h3)
      refine ⟨_, p, by simpa using a1, List.mem_cons_of_mem _ a2, .ls h1 (h2.mono sm) a3, a4.cons_cons _, fun q hq => ?_⟩
      rcases List.mem_cons.mp hq with z | z
      · subst z
        intro z
        exact nd.1 (List.mem_map.mpr ⟨_, a2, z.symm⟩)
      · exact a5 q z
theorem Sn.frz {K : PySem.W.Frag} {B : Addr → Prop} {H0 G0 H : Hp} {M : List Addr} {σ : L2.St} {env : Env} {i : Nat} {ds : List D} (hB : ∀ a, B a → (H0 a).isSome = true) (h : Sn K B H0 M G0 H σ env) (e : env[i]? = some (some (.ls true ds))) :
    Sn K B H0 M G0 H σ (env.set i (some (.fz (.lst ds)))) := by
  obtain ⟨U, ps, h⟩ := h
  obtain ⟨p, vs, b1, b2, b3, b4⟩ := h.at_.getL e
  have sm : Same (off H U) (off H fun a => U a ∧ a ≠ p) := off_sub fun a z => z.1
  obtain ⟨qs, p', a1, a2, a3, a4, a5⟩ := h.at_.frz e h.nd sm fun q ws h1 h2 h3 => by
    rw [b1] at h3
    cases h3
    exact off_some.mpr ⟨fun z => z.2 rfl, h2⟩
  rw [b1] at a1
  cases a1
  refine ⟨_, qs, fun a z => h.isS a z.1, fun a z => ⟨h.sub a z, fun q => ?_⟩, a3, List.Sublist.nodup (a4.map _) h.nd, fun q hq => ⟨⟨(h.own q (a4.subset hq)).1, a5 q hq⟩, (h.own q (a4.subset hq)).2⟩, h.keep, h.args, h.base.trans sm⟩
  have := hB a z
  rw [q, (h.own _ a2).2.1 rfl] at this
  cases this

/-! ### readings of statements -/
abbrev PXe := Value → List (Str × D) → Env → Prop
structure PEnds where
  nx : Env → Prop
  rt : S → Env → Prop
  bk : Env → Prop := fun _ => False
  ct : Env → Prop := fun _ => False
abbrev RS := PEnds → PXe → Env → Prop
structure Kn (K : PySem.W.Frag) (B : Addr → Prop) (H0 : Hp) (M : List Addr) (G0 : Hp) (W : WX) (Dn : Ends) (P : PEnds) (x : PXe) : Prop where
  nx : ∀ σ H env, P.nx env → Sn K B H0 M G0 H σ env → Dn.nx σ H
  bk : ∀ σ H env, P.bk env → Sn K B H0 M G0 H σ env → Dn.bk σ H
  ct : ∀ σ H env, P.ct env → Sn K B H0 M G0 H σ env → Dn.ct σ H
  rt : ∀ v σ H env s, P.rt s env → Sv K B H0 H v s → Sn K B H0 M G0 H σ env → Dn.rt v H
  ex : ∀ c fs d σ H env U ps, x c fs env → Xr K (off H U) d fs → SnU K B H0 M G0 U ps H σ env → W c d σ H
def Gs (K : PySem.W.Frag) (W : WX) (ts : TS) (t : RS) : Prop := ∀ (B : Addr → Prop) (H0 : Hp) (M : List Addr) (G0 : Hp) (σ : L2.St) (H : Hp) (env : Env) (Dn : Ends) (P : PEnds) (x : PXe), (∀ a, B a → (H0 a).isSome = true) →
  Sn K B H0 M G0 H σ env → t P x env → Kn K B H0 M G0 W Dn P x → ts Dn σ H
structure DS (X : Cx) (W : WX) (st : Stmt) (t : RS) where
  ts : TS
  p : L2.PS X st ts
  g : Gs X.K W ts t
structure DSs (X : Cx) (W : WX) (st : List Stmt) (t : RS) where
  ts : TS
  p : L2.PSs X st ts
  g : Gs X.K W ts t
section
variable {K : PySem.W.Frag} {W : WX} {B U : Addr → Prop} {H0 G0 H : Hp} {M : List Addr} {ps : List (Addr × Bool)} {σ : L2.St} {env : Env} {Dn : Ends} {P : PEnds} {x : PXe}
theorem Kn.gx (k : Kn K B H0 M G0 W Dn P x) (h : SnU K B H0 M G0 U ps H σ env) : Gx K W U H σ fun c fs => x c fs env := fun c fs d H' hx e hv => k.ex c fs d σ H' env U ps hx hv (h.grow e)
theorem run_e {te : TE} {t : RE} {q : S → Prop} {Q : VK} (g : Ge K W te t) (k : Kn K B H0 M G0 W Dn P x) (h : SnU K B H0 M G0 U ps H σ env) (ht : t env q fun c fs => x c fs env) (hQ : ∀ v H' s, Same H H' → Sv K U H H' v s → q s → Q v H') : te σ H Q :=
  g U env σ H Q q _ h.en ht hQ (k.gx h)
theorem run_t {te : TT} {t : RT} {q : Bool → Prop} {Q : Bool → Hp → Prop} (g : Gt K W te t) (k : Kn K B H0 M G0 W Dn P x) (h : SnU K B H0 M G0 U ps H σ env) (ht : t env q fun c fs => x c fs env) (hQ : ∀ b H', Same H H' → q b → Q b H') : te σ H Q :=
  g U env σ H Q q _ h.en ht hQ (k.gx h)
theorem Kn.weak {G1 : Hp} (e : Same G0 G1) (k : Kn K B H0 M G0 W Dn P x) : Kn K B H0 M G1 W Dn P x :=
  ⟨fun σ H env h s => k.nx σ H env h (s.weak e), fun σ H env h s => k.bk σ H env h (s.weak e), fun σ H env h s => k.ct σ H env h (s.weak e), fun v σ H env s' h r s => k.rt v σ H env s' h r (s.weak e), fun c fs d σ H env U ps h r s => k.ex c fs d σ H env U ps h r (s.weak e)⟩
end
section
variable {X : Cx} {W : WX} {st : Stmt} {sts rest : List Stmt} {e a b c : Expr} {es : List Expr} {te ta tb : RE} {ra : RA} {rt : RT} {t u : RS} {pos : Pos}
@[simp] def wNext : RS := fun P _ env => P.nx env
@[simp] def wSeq (t u : RS) : RS := fun P x env => t { P with nx := u P x } x env
noncomputable def dss_nil : DSs X W [] wNext := ⟨_, pss_nil, fun B H0 M G0 σ H env Dn P x hB h t k => k.nx σ H env t h⟩
noncomputable def dss_cons (h1 : DS X W st t) (h2 : DSs X W rest u) : DSs X W (st :: rest) (wSeq t u) where
  ts := _
  p := pss_cons h1.p h2.p
  g := fun B H0 M G0 σ H env Dn P x hB h t k => h1.g B H0 M G0 σ H env _ _ x hB h t ⟨fun σ' H' env' q s => h2.g B H0 M G0 σ' H' env' Dn P x hB s q k, k.bk, k.ct, k.rt, k.ex⟩
noncomputable def dss_one (h1 : DS X W st t) : DSs X W [st] t := ⟨_, pss_one h1.p, h1.g⟩
/-- the list at slot i becomes a datum -/
@[simp] def wFrz (i : Nat) (t : RS) : RS := fun P x env => match env[i]? with
  | some (some (.ls true ds)) => t P x (env.set i (some (.fz (.lst ds))))
  | _ => t P x env
noncomputable def dss_frz (i : Nat) (h1 : DSs X W sts t) : DSs X W sts (wFrz i t) where
  ts := _
  p := h1.p
  g := fun B H0 M G0 σ H env Dn P x hB h ht k => by
    unfold wFrz at ht
    split at ht
    · rename_i ds e
      exact h1.g B H0 M G0 σ H _ Dn P x hB (h.frz hB e) ht k
    · exact h1.g B H0 M G0 σ H env Dn P x hB h ht k
noncomputable def ds_frz (i : Nat) (h1 : DS X W st t) : DS X W st (wFrz i t) where
  ts := _
  p := h1.p
  g := fun B H0 M G0 σ H env Dn P x hB h ht k => by
    unfold wFrz at ht
    split at ht
    · rename_i ds e
      exact h1.g B H0 M G0 σ H _ Dn P x hB (h.frz hB e) ht k
    · exact h1.g B H0 M G0 σ H env Dn P x hB h ht k
/-- name = e -/
@[simp] def wSet (i : Nat) (te : RE) : RS := fun P x env => te env (fun s => P.nx (env.set i (some s))) fun c fs => x c fs env
theorem gs_set {K : PySem.W.Frag} {i : Nat} {tv : TE} (g : Ge K W tv te) : Gs K W (tAsg tv (gName i)) (wSet i te) := fun B H0 M G0 σ H env Dn P x hB h ht k => by
  obtain ⟨U, ps, h⟩ := h
  exact run_e g k h ht fun v H' s e1 sv q => k.nx _ _ _ q (h.set i e1 sv)
noncomputable def ds_set (i : Nat) {y : Str} {pos' : Pos} (hN : X.N.Nodup) (he : DE X W e te) (hi : X.N[i]? = some y := by rfl) (hx : Loc X.env.scope y := by first | exact Or.inl rfl | exact Or.inr rfl) (hs : swapsWith e (some (.Name y pos')) pos.line X.env = pure false := by rfl)
    (hf : X.fn y = true ∨ X.env.scope.names.lookup y = some .local := by first | exact .inl rfl | exact .inr rfl | assumption) : DS X W (.Assign [.Name y pos'] e pos) (wSet i te) := ⟨_, ps_set hN hi hx he.p hs hf, gs_set he.g⟩
/-- name = [.. for ..] -/
noncomputable def ds_setLc (i : Nat) {y : Str} {py : Pos} {tg iter elt : Expr} {ifs : List Expr} {scope : Scope} {it : RI} {g : RG} {tt : RT} {is : List Nat} {spos : Pos} (own : List (Str × Nat)) (hc : X.calm = true) (hN : X.N.Nodup) (hi : DI X W tg iter it) (ok : blkC X.N X.env.scope scope own = true)
    (hg : ∀ (s : Shared) (H : Hp) (C : Addr) (cl : List (Str × Addr)) (fp : List Addr), DG (X.blk s H scope (compEnvC scope cl C X.env) fp) tg is g) (ht : ∀ (s : Shared) (H : Hp) (C : Addr) (cl : List (Str × Addr)) (fp : List Addr), DTs (X.blk s H scope (compEnvC scope cl C X.env) fp) ifs tt)
    (he : ∀ (s : Shared) (H : Hp) (C : Addr) (cl : List (Str × Addr)) (fp : List Addr), DE (X.blk s H scope (compEnvC scope cl C X.env) fp) WF elt te) (hsw : swapsWith (.ListComp elt [⟨tg, iter, ifs, 0⟩] scope pos) (some (.Name y py)) spos.line X.env = pure true) (his : ∀ i ∈ is, i ∈ own.map (·.2) := by decide)
    (hy : X.N[i]? = some y := by rfl) (hyl : X.env.scope.names.lookup y = some .local := by rfl) (hs : ∀ x, foldedSetIterable iter X.env x = pure x := by intro _; rfl)
    (ug : ∀ s H C cl fp, (hg s H C cl fp).gt = (hg X.s_0 X.H_0 0 [] []).gt := by intros; rfl) (ut : ∀ s H C cl fp, (ht s H C cl fp).tt = (ht X.s_0 X.H_0 0 [] []).tt := by intros; rfl) (ue : ∀ s H C cl fp, (he s H C cl fp).te = (he X.s_0 X.H_0 0 [] []).te := by intros; rfl) :
    DS X W (.Assign [.Name y py] (.ListComp elt [⟨tg, iter, ifs, 0⟩] scope pos) spos) (wSet i (rLc it g tt te (own.map (·.2)))) where
  ts := _
  p := ps_setLc (own := own) hc hN hy hyl hsw hi.p (blkOk_by ok) (fun s H C cl fp => ug s H C cl fp ▸ (hg s H C cl fp).p) (fun s H C cl fp => ut s H C cl fp ▸ (ht s H C cl fp).p) (fun s H C cl fp => ue s H C cl fp ▸ (he s H C cl fp).p) hs
  g := gs_set (ge_lc hi.g (hg X.s_0 X.H_0 0 [] []).g (ht X.s_0 X.H_0 0 [] []).g (he X.s_0 X.H_0 0 [] []).g his)
/-- a target of names = e -/
@[simp] def wAsg (te : RE) (g : RG) : RS := fun P x env => te env (fun s => g s.d env P.nx) fun c fs => x c fs env
noncomputable def ds_asg {tg : Expr} {is : List Nat} {g : RG} (he : DE X W e te) (hg : DG X tg is g) (hs : swapsWithSole [tg] e pos.line X.env = pure false := by rfl) (hw : swappedStores [tg] e X.env = pure none := by rfl) (h1 : (assignEach [tg] X.env).map (·.2) = [assign tg X.env] := by rfl) :
    DS X W (.Assign [tg] e pos) (wAsg te g) where
  ts := _
  p := ps_asg he.p hg.p hs hw h1
  g := fun B H0 M G0 σ H env Dn P x hB h ht k => by
    obtain ⟨U, ps, h⟩ := h
    refine run_e he.g k h ht fun v H' s e1 sv q => ?_
    have h1 := h.grow e1
    exact hg.g _ H' σ env ps v s.d _ _ h1.at_ (sv.fz h.isS) off_in q fun σ' env' qs hq hA hs _ => k.nx _ _ _ hq (h1.slots hA hs).sn
/-- e alone -/
@[simp] def wDrop (te : RE) : RS := fun P x env => te env (fun _ => P.nx env) fun c fs => x c fs env
noncomputable def ds_expr (he : DE X W e te) (hs : swapsWith e none pos.line X.env = pure false := by rfl) : DS X W (.Expr e pos) (wDrop te) where
  ts := _
  p := ps_expr he.p hs
  g := fun B H0 M G0 σ H env Dn P x hB h ht k => by
    obtain ⟨U, ps, h⟩ := h
    exact run_e he.g k h ht fun v H' s e1 sv q => k.nx _ _ _ q (h.grow e1).sn
@[simp] def wRet (te : RE) : RS := fun P x env => te env (fun s => P.rt s env) fun c fs => x c fs env
noncomputable def ds_ret (he : DE X W e te) : DS X W (.Return (some e) pos) (wRet te) where
  ts := _
  p := ps_ret he.p
  g := fun B H0 M G0 σ H env Dn P x hB h ht k => by
    obtain ⟨U, ps, h⟩ := h
    exact run_e he.g k h ht fun v H' s e1 sv q => k.rt v σ H' env s q (h.sv sv) (h.grow e1).sn
/-- return e, as a datum -/
@[simp] def wRetF (te : RE) : RS := fun P x env => te env (fun s => P.rt (.fz s.d) env) fun c fs => x c fs env
noncomputable def ds_retF (he : DE X W e te) : DS X W (.Return (some e) pos) (wRetF te) where
  ts := _
  p := ps_ret he.p
  g := fun B H0 M G0 σ H env Dn P x hB h ht k => by
    obtain ⟨U, ps, h⟩ := h
    exact run_e he.g k h ht fun v H' s e1 sv q => k.rt v σ H' env _ q (show Rp X.K _ _ _ from (sv.fz h.isS).mono (off_sub h.sub)) (h.grow e1).sn
@[simp] def wRetN : RS := fun P _ env => P.rt (.fz .non) env
noncomputable def ds_retN : DS X W (.Return none pos) wRetN where
  ts := _
  p := ps_retN
  g := fun B H0 M G0 σ H env Dn P x hB h ht k => k.rt .non σ H env _ ht (show Rp X.K _ _ _ from .non) h
noncomputable def ds_pass : DS X W (.Pass pos) wNext := ⟨_, ps_pass, fun B H0 M G0 σ H env Dn P x hB h t k => k.nx σ H env t h⟩
@[simp] def wBrk : RS := fun P _ env => P.bk env
@[simp] def wCont : RS := fun P _ env => P.ct env
noncomputable def ds_break : DS X W (.Break pos) wBrk := ⟨_, ps_break, fun B H0 M G0 σ H env Dn P x hB h t k => k.bk σ H env t h⟩
noncomputable def ds_continue : DS X W (.Continue pos) wCont := ⟨_, ps_continue, fun B H0 M G0 σ H env Dn P x hB h t k => k.ct σ H env t h⟩
@[simp] def wIf (rt : RT) (t u : RS) : RS := fun P x env => rt env (fun k => if k = true then t P x env else u P x env) fun c fs => x c fs env
noncomputable def ds_if {th el : List Stmt} (hc : DT X W c rt) (ha : DSs X W th t) (hb : DSs X W el u) : DS X W (.If c th el pos) (wIf rt t u) where
  ts := _
  p := ps_if hc.p ha.p hb.p
  g := fun B H0 M G0 σ H env Dn P x hB h ht k => by
    obtain ⟨U, ps, h⟩ := h
    refine run_t hc.g k h ht fun d H' e1 q => ?_
    cases d with
    | true => exact ha.g B H0 M G0 σ H' env Dn P x hB (h.grow e1).sn q k
    | false => exact hb.g B H0 M G0 σ H' env Dn P x hB (h.grow e1).sn q k
/-- the turns of a for -/
def loopF (g : RG) (tb : RS) (P : PEnds) (x : PXe) : List D → Env → Prop
  | [], env => P.nx env
  | d :: ds, env => g d env fun env' => tb { P with nx := loopF g tb P x ds, ct := loopF g tb P x ds, bk := P.nx } x env'
@[simp] def wFor (it : RI) (g : RG) (tb : RS) : RS := fun P x env => it env (fun ds => loopF g tb P x ds env) fun c fs => x c fs env
noncomputable def ds_for {tg iter : Expr} {body : List Stmt} {it : RI} {is : List Nat} {g : RG} (hp : PassesOwn (model X.prog X.w) X.A X.env X.xe) (hc : X.calm = true) (hi : DI X W tg iter it) (hg : DG X tg is g) (hb : DSs X W body t) (hs : ∀ x, foldedSetIterable iter X.env x = pure x := by intro _; rfl) :
    DS X W (.For tg iter body [] pos) (wFor it g t) where
  ts := _
  p := ps_for hp hc hi.p hg.p hb.p hs
  g := fun B H0 M G0 σ H env Dn P x hB h ht k => by
    obtain ⟨U, ps, h⟩ := h
    refine hi.g U env σ H _ _ _ h.en ht (fun J H1 ds e1 hJ hq => ?_) (k.gx h)
    have h1 := h.grow e1
    refine ⟨fun i m σ' H' => m = ds.length - i ∧ i ≤ ds.length ∧ ∃ env', Sn X.K B H0 M (off H1 U) H' σ' env' ∧ loopF g t P x (ds.drop i) env', ⟨_, rfl, Nat.zero_le _, env, ⟨U, ps, ⟨h1.isS, h1.sub, h1.at_, h1.nd, h1.own, h1.keep, h1.args, Same.refl _⟩⟩, hq⟩, ?_⟩
    rintro i m σ' H' ⟨rfl, hi, env', ⟨U2, qs, h2⟩, hl⟩
    obtain ⟨j1, j2⟩ := hJ i H' U2 h2.base h2.isS
    by_cases hlt : i < ds.length
    · obtain ⟨d, hd⟩ : ∃ d, ds[i]? = some d := ⟨_, List.getElem?_eq_getElem hlt⟩
      obtain ⟨j3, j4⟩ := j1 d hd
      have hdrop : ds.drop i = d :: ds.drop (i + 1) := by
        obtain ⟨_, z⟩ := List.getElem?_eq_some_iff.mp hd
        rw [List.drop_eq_getElem_cons hlt, z]
      rw [hdrop] at hl
      refine .inr ⟨j3, fun σ3 H3 => ∃ env3, Sn X.K B H0 M (off H1 U) H3 σ3 env3 ∧ loopF g t P x (ds.drop (i + 1)) env3, fun σ3 H3 ⟨env3, z1, z2⟩ => ⟨_, by omega, rfl, hlt, env3, z1, z2⟩, fun v H3 y => ?_⟩
      obtain ⟨s3, r3⟩ := j4 v H3 y
      have h3 := h2.grow s3
      have hl' : g d env' fun env2 => t { P with nx := loopF g t P x (ds.drop (i + 1)), ct := loopF g t P x (ds.drop (i + 1)), bk := P.nx } x env2 := hl
      refine hg.g _ H3 σ' env' qs v d _ _ h3.at_ r3 off_in hl' fun σ4 env4 q4 hq4 hA4 hs4 _ => ?_
      exact hb.g B H0 M (off H1 U) σ4 H3 env4 _ _ x hB (h3.slots hA4 hs4).sn hq4 ⟨fun σ5 H5 env5 q s => ⟨env5, s, q⟩, fun σ5 H5 env5 q s => k.nx σ5 H5 env5 q (s.weak h1.base), fun σ5 H5 env5 q s => ⟨env5, s, q⟩, (k.weak h1.base).rt, (k.weak h1.base).ex⟩
    · have hge : ds.length ≤ i := Nat.le_of_not_lt hlt
      rw [List.drop_eq_nil_of_le hge] at hl
      exact .inl ⟨j2 hge, k.nx σ' H' env' hl ((SnU.sn h2).weak h1.base)⟩
/-- the turns of a while, at most n tests -/
def loopW (rt : RT) (tb : RS) (P : PEnds) (x : PXe) : Nat → Env → Prop
  | 0, _ => False
  | n + 1, env => rt env (fun k => if k = true then tb { P with nx := loopW rt tb P x n, ct := loopW rt tb P x n, bk := P.nx } x env else P.nx env) fun c fs => x c fs env
@[simp] def wWhile (rt : RT) (tb : RS) : RS := fun P x env => ∃ n, loopW rt tb P x n env
noncomputable def ds_while {body : List Stmt} (hp : PassesOwn (model X.prog X.w) X.A X.env X.xe) (hc : DT X W c rt) (hb : DSs X W body t) : DS X W (.While c body [] pos) (wWhile rt t) where
  ts := _
  p := ps_while hp hc.p hb.p
  g := fun B H0 M G0 σ H env Dn P x hB h ht k => by
    obtain ⟨n0, ht⟩ := ht
    refine ⟨fun n σ' H' => ∃ env', Sn X.K B H0 M G0 H' σ' env' ∧ loopW rt t P x n env', ⟨n0, env, h, ht⟩, fun n σ' H' ⟨env', ⟨U, ps, h'⟩, hl⟩ => ?_⟩
    cases n with
    | zero => exact hl.elim
    | succ n =>
      have hl' : rt env' (fun k => if k = true then t { P with nx := loopW rt t P x n, ct := loopW rt t P x n, bk := P.nx } x env' else P.nx env') fun c fs => x c fs env' := hl
      refine run_t hc.g k h' hl' fun d H2 e2 q => ?_
      cases d with
      | true =>
        show ∃ N : L2.St → Hp → Prop, _ ∧ _
        refine ⟨fun σ3 H3 => ∃ env3, Sn X.K B H0 M G0 H3 σ3 env3 ∧ loopW rt t P x n env3, fun σ3 H3 ⟨env3, z1, z2⟩ => ⟨n, Nat.lt_succ_self _, env3, z1, z2⟩, ?_⟩
        have q' : t { P with nx := loopW rt t P x n, ct := loopW rt t P x n, bk := P.nx } x env' := q
        exact hb.g B H0 M G0 σ' H2 env' _ _ x hB (h'.grow e2).sn q' ⟨fun σ5 H5 env5 q s => ⟨env5, s, q⟩, fun σ5 H5 env5 q s => k.nx σ5 H5 env5 q s, fun σ5 H5 env5 q s => ⟨env5, s, q⟩, k.rt, k.ex⟩
      | false => exact k.nx σ' H2 env' q (h'.grow e2).sn

end
end Pu
set_option Elab.async false
set_option linter.all false
set_option maxRecDepth 100000
set_option maxHeartbeats 2000000
/-! Pu6: lists of one's own, defs -/
namespace Pu
open PySem PySem.Spec PyProof.Rows L2

section
variable {K : PySem.W.Frag} {B U : Addr → Prop} {H0 G0 H H' : Hp} {M : List Addr} {ps : List (Addr × Bool)} {σ : L2.St} {env : Env}
/-- one address changes, all else is kept -/
def But (p : Addr) (H H' : Hp) : Prop := ∀ a o, a ≠ p → H a = some o → H' a = some o
theorem but_upd {p : Addr} {o : HO} : But p H (upd H p o) := fun a u h e => by rw [upd_ne h]; exact e
theorem But.off {p : Addr} (b : But p H H') (u : U p) : Same (off H U) (Pu.off H' U) := fun a o h => by
  obtain ⟨h1, h2⟩ := off_some.mp h
  exact off_some.mpr ⟨h1, b a o (fun z => h1 (z ▸ u)) h2⟩
theorem But.some {p : Addr} (b : But p H H') (hp : (H' p).isSome = true) {a : Addr} (h : (H a).isSome = true) : (H' a).isSome = true := by
  by_cases e : a = p
  · rw [e]; exact hp
  · obtain ⟨o, ho⟩ := Option.isSome_iff_exists.mp h
    rw [b a o e ho]; rfl
theorem EnA.but {G G' : Hp} {p : Addr} (h : EnA K H G σ env ps) (b : But p H H') (sm : Same G G') (n : ∀ q ∈ ps, q.1 ≠ p) : EnA K H' G' σ env ps := by
  induction h with
  | nil => exact .nil
  | non _ ih => exact .non (ih n)
  | fz r _ ih => exact .fz (r.mono sm) (ih n)
  | exn r _ ih => exact .exn (r.mono sm) (ih n)
  | ls h r _ ih => exact .ls (b _ _ (n _ List.mem_cons_self) h) (r.mono sm) (ih fun q hq => n q (List.mem_cons_of_mem _ hq))
theorem EnA.chg {G G' : Hp} {i : Nat} {p : Addr} {k : Bool} {ds ds' : List D} {vs' : List V} (h : EnA K H G σ env ps) (hi : env[i]? = some (some (.ls k ds))) (hp : σ[i]? = some (some (.ref p))) (b : But p H H') (hv : H' p = some (.lst vs')) (sm : Same G G') (r : Rps K G' vs' ds') (nd : (ps.map (·.1)).Nodup) :
    EnA K H' G' σ (env.set i (some (.ls k ds'))) ps := by
  induction h generalizing i with
  | nil => simp at hi
  | non h ih =>
    cases i with
    | zero => simp at hi
    | succ i => exact .non (ih (i := i) (by simpa using hi) (by simpa using hp) nd)
  | fz r' h ih =>
    cases i with
    | zero => simp at hi
    | succ i => exact .fz (r'.mono sm) (ih (i := i) (by simpa using hi) (by simpa using hp) nd)
  | exn r' h ih =>
    cases i with
    | zero => simp at hi
    | succ i => exact .exn (r'.mono sm) (ih (i := i) (by simpa using hi) (by simpa using hp) nd)
  | @ls p0 b0 vs0 ds0 σ0 env0 ps0 h1 h2 h ih =>
    rw [List.map_cons, List.nodup_cons] at nd
    cases i with
    | zero =>
      simp at hi hp
      obtain ⟨rfl, rfl⟩ := hi
      subst hp
      exact .ls hv r (h.but b sm fun q hq e => nd.1 (List.mem_map.mpr ⟨q, hq, e⟩))
    | succ i =>
      have h3 := ih (i := i) (by simpa using hi) (by simpa using hp) nd.2
      refine .ls (b _ _ ?_ h1) (h2.mono sm) h3
      intro e
      obtain ⟨p', vs, q1, _, _, q2⟩ := h.getL (i := i) (by simpa using hi)
      rw [show σ0[i]? = some (some (.ref p)) by simpa using hp] at q1
      cases q1
      exact nd.1 (List.mem_map.mpr ⟨_, q2, e.symm⟩)
/-- the list at slot i is changed by somebody else -/
theorem SnU.chg (h : SnU K B H0 M G0 U ps H σ env) {i : Nat} {p : Addr} {k : Bool} {ds ds' : List D} {vs' : List V} (hi : env[i]? = some (some (.ls k ds))) (hp : σ[i]? = some (some (.ref p))) (hb : (p, k) ∈ ps) (b : But p H H') (hv : H' p = some (.lst vs'))
    (r : Rps K (off H' U) vs' ds') : SnU K B H0 M G0 U ps H' σ (env.set i (some (.ls k ds'))) := by
  have up : U p := (h.own _ hb).1
  have sm := b.off up
  have hS : (H' p).isSome = true := by rw [hv]; rfl
  refine ⟨fun a u => b.some hS (h.isS a u), h.sub, h.at_.chg hi hp b hv sm r h.nd, h.nd, h.own, fun a o h1 h2 => b a o (fun z => ?_) (h.keep a o h1 h2), fun a m => b.some hS (h.args a m), h.base.trans sm⟩
  rw [z] at h1 h2
  cases k with
  | true =>
    rw [(h.own _ hb).2.1 rfl] at h1
    cases h1
  | false => exact h2 ((h.own _ hb).2.2 rfl)
/-- .. and is no longer known -/
theorem SnU.lost (h : SnU K B H0 M G0 U ps H σ env) {i : Nat} {p : Addr} {k : Bool} {ds : List D} (hi : env[i]? = some (some (.ls k ds))) (hp : σ[i]? = some (some (.ref p))) (hb : (p, k) ∈ ps) (b : But p H H') (hS : (H' p).isSome = true) : ∃ qs, SnU K B H0 M G0 U qs H' σ (env.set i none) := by
  have up : U p := (h.own _ hb).1
  have sm := b.off up
  -- as if it held nothing: the slot is forgotten first
  have key : ∀ {σ : L2.St} {env : Env} {ps : List (Addr × Bool)} {i : Nat} {G : Hp}, EnA K H G σ env ps → env[i]? = some (some (.ls k ds)) → σ[i]? = some (some (.ref p)) → (ps.map (·.1)).Nodup → ∃ qs, EnA K H G σ (env.set i none) qs ∧ qs.Sublist ps ∧ ∀ q ∈ qs, q.1 ≠ p := by
    intro σ env ps i G h
    induction h generalizing i with
    | nil => intro hi; simp at hi
    | non h ih =>
      intro hi hp nd
      cases i with
      | zero => simp at hi
      | succ i =>
        obtain ⟨qs, a1, a2, a3⟩ := ih (i := i) (by simpa using hi) (by simpa using hp) nd
        exact ⟨qs, .non a1, a2, a3⟩
    | fz r' h ih =>
      intro hi hp nd
      cases i with
      | zero => simp at hi
      | succ i =>
        obtain ⟨qs, a1, a2, a3⟩ := ih (i := i) (by simpa using hi) (by simpa using hp) nd
        exact ⟨qs, .fz r' a1, a2, a3⟩
    | exn r' h ih =>
      intro hi hp nd
      cases i with
      | zero => simp at hi
      | succ i =>
        obtain ⟨qs, a1, a2, a3⟩ := ih (i := i) (by simpa using hi) (by simpa using hp) nd
        exact ⟨qs, .exn r' a1, a2, a3⟩
    | @ls p0 b0 vs0 ds0 σ0 env0 ps0 h1 h2 h ih =>
      intro hi hp nd
      rw [List.map_cons, List.nodup_cons] at nd
      cases i with
      | zero =>
        simp at hi hp
        subst hp
        exact ⟨ps0, .non h, List.sublist_cons_self _ _, fun q hq e => nd.1 (List.mem_map.mpr ⟨q, hq, e⟩)⟩
      | succ i =>
        obtain ⟨qs, a1, a2, a3⟩ := ih (i := i) (by simpa using hi) (by simpa using hp) nd.2
        refine ⟨_, .ls h1 h2 a1, a2.cons_cons _, fun q hq => ?_⟩
        rcases List.mem_cons.mp hq with z | z
        · subst z
          intro e
          obtain ⟨p', vs, q1, _, _, q2⟩ := h.getL (i := i) (by simpa using hi)
          rw [show σ0[i]? = some (some (.ref p)) by simpa using hp] at q1
          cases q1
          exact nd.1 (List.mem_map.mpr ⟨_, q2, e.symm⟩)
        · exact a3 q z
  obtain ⟨qs, a1, a2, a3⟩ := key h.at_ hi hp h.nd
  refine ⟨qs, fun a u => b.some hS (h.isS a u), h.sub, a1.but b sm a3, List.Sublist.nodup (a2.map _) h.nd, fun q hq => h.own q (a2.subset hq), fun a o h1 h2 => b a o (fun z => ?_) (h.keep a o h1 h2), fun a m => b.some hS (h.args a m), h.base.trans sm⟩
  rw [z] at h1 h2
  cases k with
  | true =>
    rw [(h.own _ hb).2.1 rfl] at h1
    cases h1
  | false => exact h2 ((h.own _ hb).2.2 rfl)
end

section
variable {X : Cx} {W : WX} {st : Stmt} {sts rest : List Stmt} {e a b c : Expr} {es : List Expr} {te ta tb : RE} {ra : RA} {rt : RT} {t u : RS} {pos : Pos} {y : Str} {p1 p2 p3 : Pos}
/-! ### xs.append(e), xs.extend(e), xs.pop(), xs[i] = e -/
@[simp] def wApp (i : Nat) (te : RE) : RS := fun P x env => match env[i]? with
  | some (some (.ls k ds)) => te env (fun s => ds.length < 16777216 ∧ P.nx (env.set i (some (.ls k (ds ++ [s.d]))))) fun c fs => x c fs env
  | _ => False
noncomputable def ds_app (i : Nat) {apos : Pos} (he : DE X W e te) (hN : X.N[i]? = some y := by rfl) (hv : Vis X.env.scope y := by first | exact Or.inl rfl | exact Or.inr (Or.inl rfl) | exact Or.inr (Or.inr rfl)) (hd : (y == ("__debug__" : Str)) = false := by decide) (hcd : (y == ("__classdict__" : Str)) = false := by decide)
    (hb : attributeBase (.Name y p1) "append" X.env (eval (.Name y p1) X.env) = eval (.Name y p1) X.env := by rfl) (hfew : ((backTo p2 (starEach [e] X.env)).all (fun x => !x.1) && (backToKw p2 (keywordEach [] X.env)).all (fun x => x.1.isSome)
      && decide ([e].length + ([] : List Keyword).length + (if ([] : List Keyword).isEmpty then 0 else 1) < 30)) = true := by rfl) (hline : (apos.endLine == p2.line) = true := by rfl) (hs : starEach [e] X.env = (false, eval e X.env) :: starEach [] X.env := by rfl)
    (hplain : (backTo p2 (starEach [] X.env)).any (·.1) = false := by rfl) (hsw : swapsWith (.Call (.Attribute (.Name y p1) "append" apos) [e] [] p2) none pos.line X.env = pure false := by rfl) :
    DS X W (.Expr (.Call (.Attribute (.Name y p1) "append" apos) [e] [] p2) pos) (wApp i te) where
  ts := _
  p := ps_expr (pe_bm PySem.F.plainAttrs_list PySem.F.slot_list_append PySem.F.type_list_append mt_append (pe_var hN hv hd hcd) (pa_cons he.p pa_nil hs) hb hfew hline hs hplain) hsw
  g := fun B H0 M G0 σ H env Dn P x hB h ht k => by
    obtain ⟨U, ps, h⟩ := h
    unfold wApp at ht
    split at ht
    · rename_i kk ds ee
      obtain ⟨p, vs, a1, a2, a3, a4⟩ := h.at_.getL ee
      refine ⟨_, a1, .inl ⟨rfl, _, .inl (.inl a2)⟩, ?_⟩
      refine run_e he.g k h ht fun v H1 s e1 sv hq => ?_
      have h1 := h.grow e1
      obtain ⟨p', vs', b1, b2, b3, b4⟩ := h1.at_.getL ee
      rw [a1] at b1
      cases b1
      refine ⟨p, vs', v, rfl, rfl, b2, ?_, ?_⟩
      · rw [b3.length, sizeLine_eq]
        exact hq.1
      · exact k.nx _ _ _ hq.2 (h1.chg ee a1 b4 but_upd upd_same (by rw [off_upd (h1.own _ b4).1]; exact b3.append (.cons (sv.fz h.isS) .nil))).sn
    · exact ht.elim
@[simp] def wExt (i : Nat) (te : RE) : RS := fun P x env => match env[i]? with
  | some (some (.ls k ds)) => te env (fun s => match s.d with
    | .lst es => ds.length + es.length ≤ 16777216 ∧ P.nx (env.set i (some (.ls k (ds ++ es))))
    | _ => False) fun c fs => x c fs env
  | _ => False
noncomputable def ds_ext (i : Nat) {apos : Pos} (he : DE X W e te) (hN : X.N[i]? = some y := by rfl) (hv : Vis X.env.scope y := by first | exact Or.inl rfl | exact Or.inr (Or.inl rfl) | exact Or.inr (Or.inr rfl)) (hd : (y == ("__debug__" : Str)) = false := by decide) (hcd : (y == ("__classdict__" : Str)) = false := by decide)
    (hb : attributeBase (.Name y p1) "extend" X.env (eval (.Name y p1) X.env) = eval (.Name y p1) X.env := by rfl) (hfew : ((backTo p2 (starEach [e] X.env)).all (fun x => !x.1) && (backToKw p2 (keywordEach [] X.env)).all (fun x => x.1.isSome)
      && decide ([e].length + ([] : List Keyword).length + (if ([] : List Keyword).isEmpty then 0 else 1) < 30)) = true := by rfl) (hline : (apos.endLine == p2.line) = true := by rfl) (hs : starEach [e] X.env = (false, eval e X.env) :: starEach [] X.env := by rfl)
    (hplain : (backTo p2 (starEach [] X.env)).any (·.1) = false := by rfl) (hsw : swapsWith (.Call (.Attribute (.Name y p1) "extend" apos) [e] [] p2) none pos.line X.env = pure false := by rfl) :
    DS X W (.Expr (.Call (.Attribute (.Name y p1) "extend" apos) [e] [] p2) pos) (wExt i te) where
  ts := _
  p := ps_expr (pe_bm PySem.F.plainAttrs_list PySem.F.slot_list_extend PySem.F.type_list_extend mt_extend (pe_var hN hv hd hcd) (pa_cons he.p pa_nil hs) hb hfew hline hs hplain) hsw
  g := fun B H0 M G0 σ H env Dn P x hB h ht k => by
    obtain ⟨U, ps, h⟩ := h
    unfold wExt at ht
    split at ht
    · rename_i kk ds ee
      obtain ⟨p, vs, a1, a2, a3, a4⟩ := h.at_.getL ee
      refine ⟨_, a1, .inl ⟨rfl, _, .inl (.inl a2)⟩, ?_⟩
      refine run_e he.g k h ht fun v H1 s e1 sv hq => ?_
      have h1 := h.grow e1
      obtain ⟨p', vs', b1, b2, b3, b4⟩ := h1.at_.getL ee
      rw [a1] at b1
      cases b1
      have r := sv.fz h.isS
      generalize s.d = sd at hq r
      cases sd <;> first | exact hq.elim | skip
      cases r with
      | lst hb' rs =>
        refine ⟨p, _, vs', _, rfl, rfl, b2, off_in _ _ hb', ?_, ?_⟩
        · rw [b3.length, rs.length]
          exact small_size hq.1
        · exact k.nx _ _ _ hq.2 (h1.chg ee a1 b4 but_upd upd_same (by rw [off_upd (h1.own _ b4).1]; exact b3.append rs)).sn
    · exact ht.elim
/-- target = xs.pop() -/
@[simp] def wPop (i : Nat) (g : RG) : RS := fun P x env => match env[i]? with
  | some (some (.ls k ds)) => ∃ d, ds.getLast? = some d ∧ g d (env.set i (some (.ls k ds.dropLast))) P.nx
  | _ => False
theorem last_at {α : Type} {xs : List α} : xs[xs.length - 1]? = xs.getLast? := by rw [List.getLast?_eq_getElem?]
noncomputable def ds_pop (i : Nat) {tg : Expr} {is : List Nat} {g : RG} {apos : Pos} (hg : DG X tg is g) (hN : X.N[i]? = some y := by rfl) (hv : Vis X.env.scope y := by first | exact Or.inl rfl | exact Or.inr (Or.inl rfl) | exact Or.inr (Or.inr rfl)) (hd : (y == ("__debug__" : Str)) = false := by decide) (hcd : (y == ("__classdict__" : Str)) = false := by decide)
    (hb : attributeBase (.Name y p1) "pop" X.env (eval (.Name y p1) X.env) = eval (.Name y p1) X.env := by rfl) (hline : (apos.endLine == p2.line) = true := by rfl) (hs : swapsWithSole [tg] (.Call (.Attribute (.Name y p1) "pop" apos) [] [] p2) pos.line X.env = pure false := by rfl)
    (hw : swappedStores [tg] (.Call (.Attribute (.Name y p1) "pop" apos) [] [] p2) X.env = pure none := by rfl) (h1 : (assignEach [tg] X.env).map (·.2) = [assign tg X.env] := by rfl) :
    DS X W (.Assign [tg] (.Call (.Attribute (.Name y p1) "pop" apos) [] [] p2) pos) (wPop i g) where
  ts := _
  p := ps_asg (pe_bm0 PySem.F.plainAttrs_list PySem.F.slot_list_pop PySem.F.type_list_pop mt_pop (pe_var hN hv hd hcd) hb hline) hg.p hs hw h1
  g := fun B H0 M G0 σ H env Dn P x hB h ht k => by
    obtain ⟨U, ps, h⟩ := h
    unfold wPop at ht
    split at ht
    · rename_i kk ds ee
      obtain ⟨d, hd, hq⟩ := ht
      obtain ⟨p, vs, a1, a2, a3, a4⟩ := h.at_.getL ee
      have hd' : ds[ds.length - 1]? = some d := last_at.trans hd
      obtain ⟨v, hv, rv⟩ := a3.get hd'
      rw [← a3.length] at hv
      refine ⟨_, a1, .inl ⟨rfl, _, .inl (.inl a2)⟩, p, vs, v, rfl, rfl, a2, hv, ?_⟩
      have eo : off (upd H p (.lst vs.dropLast)) U = off H U := off_upd (h.own _ a4).1
      have h2 := h.chg ee a1 a4 but_upd upd_same (vs' := vs.dropLast) (ds' := ds.dropLast) (by rw [eo]; exact a3.dropLast)
      refine hg.g _ _ σ _ ps v d _ _ h2.at_ (by rw [eo]; exact rv) off_in hq fun σ' env' qs hq' hA hs' _ => ?_
      exact k.nx _ _ _ hq' (h2.slots hA hs').sn
    · exact ht.elim
/-- xs[e2] = e -/
@[simp] def wPut (i : Nat) (te ti : RE) : RS := fun P x env => match env[i]? with
  | some (some (.ls k ds)) => te env (fun s => ti env (fun s2 => match s2.d with
    | .int n => ∃ j, ixN ds.length n = some j ∧ P.nx (env.set i (some (.ls k (ds.set j s.d))))
    | _ => False) fun c fs => x c fs env) fun c fs => x c fs env
  | _ => False
noncomputable def ds_put (i : Nat) (he : DE X W e te) (ha : DE X W a ta) (hN : X.N[i]? = some y := by rfl) (hv : Vis X.env.scope y := by first | exact Or.inl rfl | exact Or.inr (Or.inl rfl) | exact Or.inr (Or.inr rfl)) (hd : (y == ("__debug__" : Str)) = false := by decide) (hcd : (y == ("__classdict__" : Str)) = false := by decide)
    (hs : swapsWithSole [.Subscript (.Name y p1) a p2] e pos.line X.env = pure false := by rfl) (hw : swappedStores [.Subscript (.Name y p1) a p2] e X.env = pure none := by rfl) (h1 : (assignEach [.Subscript (.Name y p1) a p2] X.env).map (·.2) = [assign (.Subscript (.Name y p1) a p2) X.env] := by rfl)
    (hg : ∀ v, assign (.Subscript (.Name y p1) a p2) X.env v = (do
      let ov ← holding [v] (eval (.Name y p1) X.env)
      let iv ← holding [v, ov] (eval a X.env)
      standAt p2
      holding [v, ov, iv] (setItem ov iv v)
      release [v, ov, iv] []) := by intro _; rfl) : DS X W (.Assign [.Subscript (.Name y p1) a p2] e pos) (wPut i te ta) where
  ts := _
  p := ps_asg he.p (pg_sub (pe_var hN hv hd hcd) ha.p set_list hg) hs hw h1
  g := fun B H0 M G0 σ H env Dn P x hB h ht k => by
    obtain ⟨U, ps, h⟩ := h
    unfold wPut at ht
    split at ht
    · rename_i kk ds ee
      refine run_e he.g k h ht fun v H1 s e1 sv hq => ?_
      have h1 := h.grow e1
      obtain ⟨p, vs, a1, a2, a3, a4⟩ := h1.at_.getL ee
      refine ⟨_, a1, ?_⟩
      refine run_e ha.g k h1 hq fun w H2 s2 e2 sv2 hq2 => ?_
      have h2 := h1.grow e2
      obtain ⟨p', vs', b1, b2, b3, b4⟩ := h2.at_.getL ee
      rw [a1] at b1
      cases b1
      have r2 := sv2.fz h1.isS
      generalize s2.d = sd at hq2 r2
      cases sd <;> first | exact hq2.elim | skip
      cases r2
      obtain ⟨j, hj, hq2⟩ := hq2
      refine ⟨p, vs', _, j, rfl, rfl, b2, by rw [b3.length]; exact hj, ?_⟩
      exact k.nx _ _ _ hq2 (h2.chg ee a1 b4 but_upd upd_same (by rw [off_upd (h2.own _ b4).1]; exact b3.set ((sv.fz h.isS).mono (off_mono e2)) j)).sn
    · exact ht.elim

/-! ### reading a list of one's own -/
/-- the list (or datum) at slot i, for a reader that keeps nothing -/
@[simp] def peek (env : Env) (i : Nat) : Option D := match env[i]? with
  | some (some (.fz d)) => some d
  | some (some (.ls _ ds)) => some (.lst ds)
  | _ => none
theorem En.peek {K : PySem.W.Frag} {U : Addr → Prop} {H : Hp} {σ : L2.St} {env : Env} {i : Nat} {d : D} (h : En K U H σ env) (e : Pu.peek env i = some d) : ∃ v, σ[i]? = some (some v) ∧ (Rp K (off H U) v d ∨ ∃ p vs ds, v = .ref p ∧ d = .lst ds ∧ H p = some (.lst vs) ∧ Rps K (off H U) vs ds) := by
  obtain ⟨_, ps, hA, _⟩ := h
  unfold Pu.peek at e
  split at e
  · rename_i d es
    cases e
    obtain ⟨v, h1, h2⟩ := hA.get es
    exact ⟨v, h1, .inl h2⟩
  · rename_i k ds es
    cases e
    obtain ⟨p, vs, h1, h2, h3, _⟩ := hA.getL es
    exact ⟨_, h1, .inr ⟨p, vs, ds, rfl, rfl, h2, h3⟩⟩
  · cases e
@[simp] def rLenO (i : Nat) : RE := fun env q _ => match peek env i with
  | some d => fLen [d] q
  | none => False
noncomputable def de_lenO (i : Nat) (hm : X.mg "len" = none) (hN : X.N[i]? = some y := by rfl) (hv : Vis X.env.scope y := by first | exact Or.inl rfl | exact Or.inr (Or.inl rfl) | exact Or.inr (Or.inr rfl)) (hd : (y == ("__debug__" : Str)) = false := by decide) (hcd : (y == ("__classdict__" : Str)) = false := by decide)
    (hg : Gl X "len" := by rfl) (he : starEach [.Name y p1] X.env = (false, eval (.Name y p1) X.env) :: starEach [] X.env := by rfl) (hpl : (backTo pos (starEach [] X.env)).any (·.1) = false := by rfl) : DE X W (.Call (.Name "len" p2) [.Name y p1] [] pos) (rLenO i) where
  te := _
  p := pe_callB call_len hg hm PySem.boot_len (pa_cons (pe_var hN hv hd hcd) pa_nil he) (by decide) (by decide) he hpl
  g := fun U env σ H Q q x hE h k hx => by
    unfold rLenO at h
    split at h
    · rename_i d e
      obtain ⟨v, h1, h2⟩ := hE.peek e
      refine ⟨v, h1, ?_⟩
      rcases h2 with r | ⟨p, vs, ds, rfl, rfl, hp, r⟩
      · exact rule_len U H [v] [d] Q q hE.1 (.cons r .nil) h k
      · exact ⟨_, _, rfl, .inl ⟨_, .inl (.inl hp), rfl⟩, k _ H (.fz (.int _)) (Same.refl H) (.int _) (int_of r.length.symm h)⟩
    · exact h.elim
@[simp] def rTruO (i : Nat) : RT := fun env q _ => match peek env i with
  | some d => (match d with
    | .lst ds => q (!ds.isEmpty)
    | _ => False)
  | none => False
noncomputable def dt_truO (i : Nat) (hN : X.N[i]? = some y := by rfl) (hv : Vis X.env.scope y := by first | exact Or.inl rfl | exact Or.inr (Or.inl rfl) | exact Or.inr (Or.inr rfl)) (hd : (y == ("__debug__" : Str)) = false := by decide) (hcd : (y == ("__classdict__" : Str)) = false := by decide)
    (he : ∀ whole, isTrue (.Name y pos) X.env whole = (do let v ← whole; standAt (Expr.pos (.Name y pos)); holding [v] (truthy v)) := by intro _; rfl) : DT X W (.Name y pos) (rTruO i) where
  tt := _
  p := pt_truth (pe_var hN hv hd hcd) he
  g := fun U env σ H Q q x hE h k hx => by
    unfold rTruO at h
    split at h
    · rename_i d e
      obtain ⟨v, h1, h2⟩ := hE.peek e
      refine ⟨v, h1, ?_⟩
      cases d <;> first | exact h.elim | skip
      rcases h2 with r | ⟨p, vs, ds, rfl, ed, hp, r⟩
      · cases r with
        | lst hh s => exact ⟨_, .inl ⟨_, .inl (.inl (off_in _ _ hh)), rfl⟩, k _ H (Same.refl H) (by rw [isEmpty_len s.length]; exact h)⟩
      · cases ed
        exact ⟨_, .inl ⟨_, .inl (.inl hp), rfl⟩, k _ H (Same.refl H) (by rw [isEmpty_len r.length]; exact h)⟩
    · exact h.elim
@[simp] def rIxO (i : Nat) (ti : RE) : RE := fun env q x => match peek env i with
  | some d => ti env (fun s => fIx d s.d q) x
  | none => False
noncomputable def de_ixO (i : Nat) (hb : DE X W b tb) (hs : PlainIx b := by exact fun _ _ => rfl) (hN : X.N[i]? = some y := by rfl) (hv : Vis X.env.scope y := by first | exact Or.inl rfl | exact Or.inr (Or.inl rfl) | exact Or.inr (Or.inr rfl)) (hd : (y == ("__debug__" : Str)) = false := by decide) (hcd : (y == ("__classdict__" : Str)) = false := by decide) :
    DE X W (.Subscript (.Name y p1) b pos) (rIxO i tb) where
  te := _
  p := pe_ix ix_seq (pe_var hN hv hd hcd) hb.p hs
  g := fun U env σ H Q q x hE h k hx => by
    unfold rIxO at h
    split at h
    · rename_i d e
      obtain ⟨v, h1, _⟩ := hE.peek e
      refine ⟨v, h1, ?_⟩
      refine ge_d hb.g (q := fun d2 => fIx d d2 q) hE h (fun w H1 d2 e1 r1 hf => ?_) hx
      obtain ⟨v', h1', h2⟩ := (hE.mono e1).peek e
      rw [h1] at h1'
      cases h1'
      have kk : ∀ v H' s, Same H1 H' → Sv X.K U H1 H' v s → q s → Q v H' := fun v H' s e' sv z => k v H' s (e1.trans e') (sv.back e1) z
      rcases h2 with r | ⟨p, vs, ds, rfl, rfl, hp, r⟩
      · exact rule_ix U H1 v w d d2 Q q (fun a u => same_some e1 (hE.1 a u)) r r1 hf kk
      · cases d2 <;> first | exact hf.elim | skip
        obtain ⟨d3, hd3, hq⟩ := hf
        cases r1
        obtain ⟨w3, hw3, rw3⟩ := r.atI hd3
        exact .inl ⟨_, _, _, w3, rfl, rfl, .inl (.inl hp), hw3, kk _ H1 (.fz d3) (Same.refl _) rw3 hq⟩
    · exact h.elim
@[simp] def rInO (neg : Bool) (te : RE) (i : Nat) : RE := fun env q x => te env (fun s => match peek env i with
  | some d => fInB neg s.d d q
  | none => False) x
theorem ge_inO {K : PySem.W.Frag} {neg : Bool} {i : Nat} {r : R2} {tv : TE} (hr : Rule2 K r (fInB neg)) (hl : ∀ (H : Hp) (x : V) (p : Addr) (xs : List V) (Q : VK), H p = some (.lst xs) → flatV x = true → xs.all flatV = true → Q (.bl (if neg then !inV x xs else inV x xs)) H → r x (.ref p) H Q) (g : Ge K W tv te) :
    Ge K W (tOp r tv (tVar i)) (rInO neg te i) := fun U env σ H Q q x hE h k hx => by
  refine ge_d g (q := fun d1 => match Pu.peek env i with | some d => fInB neg d1 d q | none => False) hE h (fun w H1 d1 e1 r1 hf => ?_) hx
  split at hf
  · rename_i d e
    obtain ⟨v, h1, h2⟩ := (hE.mono e1).peek e
    refine ⟨v, h1, ?_⟩
    have kk : ∀ v H' s, Same H1 H' → Sv K U H1 H' v s → q s → Q v H' := fun v H' s e' sv z => k v H' s (e1.trans e') (sv.back e1) z
    rcases h2 with r' | ⟨p, vs, ds, rfl, rfl, hp, r'⟩
    · exact hr U H1 w v d1 d Q q (fun a u => same_some e1 (hE.1 a u)) r1 r' hf kk
    · exact hl H1 w p vs Q hp (r1.flat hf.1) (r'.flat hf.2.1) (kk _ H1 (.fz (.bl _)) (Same.refl _) (by rw [inF_V r1 hf.1 r' hf.2.1]; exact .bl _) hf.2.2)
  · exact hf.elim
noncomputable def dt_inO (i : Nat) (ha : DE X W a ta) (hN : X.N[i]? = some y := by rfl) (hv : Vis X.env.scope y := by first | exact Or.inl rfl | exact Or.inr (Or.inl rfl) | exact Or.inr (Or.inr rfl)) (hd : (y == ("__debug__" : Str)) = false := by decide) (hcd : (y == ("__classdict__" : Str)) = false := by decide)
    (hm : behindInMarks .In (.Name y p1) = false := by rfl) : DT X W (.Compare a [.In] [.Name y p1] pos) (rT (rInO false ta i)) where
  tt := _
  p := pt_cmpR op_inAll ha.p (pe_var hN hv hd hcd) hm
  g := gt_of (ge_inO rule_in (fun H x p xs Q h1 h2 h3 h4 => .inl ⟨p, xs, rfl, .inl (.inl (.inl h1)), h2, h3, h4⟩) ha.g)
noncomputable def dt_notinO (i : Nat) (ha : DE X W a ta) (hN : X.N[i]? = some y := by rfl) (hv : Vis X.env.scope y := by first | exact Or.inl rfl | exact Or.inr (Or.inl rfl) | exact Or.inr (Or.inr rfl)) (hd : (y == ("__debug__" : Str)) = false := by decide) (hcd : (y == ("__classdict__" : Str)) = false := by decide)
    (hm : behindInMarks .NotIn (.Name y p1) = false := by rfl) : DT X W (.Compare a [.NotIn] [.Name y p1] pos) (rT (rInO true ta i)) where
  tt := _
  p := pt_cmpR op_notInAll ha.p (pe_var hN hv hd hcd) hm
  g := gt_of (ge_inO rule_notin (fun H x p xs Q h1 h2 h3 h4 => .inl ⟨p, xs, rfl, .inl (.inl (.inl h1)), h2, h3, h4⟩) ha.g)

/-! ### defs -/
structure Body (X : Cx) (W : WX) (sts : List Stmt) (ok : RS → Prop) where
  t : RS
  d : DSs X W sts t
  ok : ok t
theorem Rps.start {K : PySem.W.Frag} {H G : Hp} {vs : List V} {ds : List D} (r : Rps K G vs ds) (n : Nat) : EnA K H G (vs.map some ++ List.replicate n none) (ds.map (fun d => some (.fz d)) ++ List.replicate n none) [] := by
  have tail : EnA K H G (List.replicate n none) (List.replicate n none) [] := by
    induction n with
    | zero => exact .nil
    | succ n ih => exact .non ih
  have key : ∀ {vs : List V} {ds : List D}, Rps K G vs ds → EnA K H G (vs.map some ++ List.replicate n none) (ds.map (fun d => some (.fz d)) ++ List.replicate n none) [] := by
    intro vs
    induction vs with
    | nil =>
      intro ds r
      cases r
      exact tail
    | cons v vs ih =>
      intro ds r
      cases r with
      | cons h r => exact .fz h (ih r)
  exact key r
/-- the slots at a def's entry -/
@[simp] def start (N : Nat) (ds : List D) : Env := ds.map (fun d => some (.fz d)) ++ List.replicate (N - ds.length) none
theorem def_ok {P : Program} {w : World} {K : PySem.W.Frag} {mg : Str → Option Value} {base : Heap} {x qual : Str} {st : Stmt} {f : Addr} {fd : FuncData} {N ps : List Str} {k : Nat} {φ : FSp} (F : Fun K x qual st f fd) (S : FnScope N ps (defScope st)) (len : ∀ ds q x, φ ds q x → ds.length = ps.length)
    (hbody : ∀ (cdv : Value) (A : Around) (outer : List PySem.Env) (s : Shared) (H : Hp) (E : XK), Room k (A.deeper (envOfC qual (defScope st) s.heap.objs.size f cdv)) → Takes (cxOf (L2.CX P w) P w K mg base N qual (defScope st) f cdv A outer s H E) (fun c d _ H => E c d H) →
      Body (cxOf (L2.CX P w) P w K mg base N qual (defScope st) f cdv A outer s H E) (fun c d _ H => E c d H) (defBody st) fun t => ∀ ds q x, φ ds q x → t { nx := fun _ => q (.fz .non), rt := fun s _ => q s } (fun c fs _ => x c fs) (start N.length ds)) :
    FnOk P w K mg base (L2.CX P w) (k + 1) f fd ps (spF K φ) := by
  refine F.okX S (fun vs H Q E h => ?_) (fun cdv A outer s H vs Q E hr h => ?_)
  · obtain ⟨U, ds, q, x, _, r, hφ, _⟩ := h
    rw [r.length]
    exact len _ _ _ hφ
  · obtain ⟨t, ⟨ts, p, g⟩, ok⟩ := hbody cdv A outer s H E hr (takes_of rfl rfl rfl rfl)
    refine ⟨ts, p, ?_⟩
    obtain ⟨U, ds, q, x, hU, r, hφ, hq, hx⟩ := h
    have hl := r.length
    have h0 : SnU K U H [] (off H U) U [] H (L2.start N vs) (start N.length ds) := by
      refine ⟨hU, fun a z => z, ?_, List.nodup_nil, fun p hp => by simp at hp, fun a o h _ => h, fun a h => by simp at h, Same.refl _⟩
      unfold L2.start start
      rw [hl]
      exact r.start _
    have sm : ∀ {H' : Hp} {σ : L2.St} {env : Env}, Sn K U H [] (off H U) H' σ env → Same H H' := fun ⟨_, _, z⟩ a o e => z.keep a o e (by simp)
    exact g U H [] (off H U) _ H _ _ _ _ hU h0.sn (ok ds q x hφ) ⟨fun σ H' env z s => hq .non H' (.fz .non) (sm s) (show Rp K _ _ _ from .non) z, fun _ _ _ z => z.elim, fun _ _ _ z => z.elim, fun v σ H' env s' z sv s => hq v H' s' (sm s) sv z, fun c fs d σ H' env U' ps' z hv s => hx c fs d H' z (sm s.sn) (Xr.mono (off_sub s.sub) hv)⟩
end
end Pu
set_option Elab.async false
set_option linter.all false
set_option maxRecDepth 100000
set_option maxHeartbeats 2000000
/-! Pu7: try with several clauses, errors raised and caught, isinstance of a caught error, lists and texts repeated -/
namespace PySem.W
open PySem PySem.Spec PySem.Calls PyProof.Rows
section
variable {prog : Program} {w : World} {A : Around} {E : Value → Shared → Prop} {s : Shared} {K : Frag} {x D : Addr} {ox : Obj} {oo : Option Obj}
/-- what the class of a caught error must say for isinstance -/
structure PuX (K : Frag) (D : Addr) : Prop where
  hga : findIn K (.ref D) "__getattribute__" = some (some (.builtin "BaseException.__getattribute__"))
  hgt : findIn K (.ref D) "__getattr__" = some none
  hsub : subIn K (.ref D) (.type "BaseException") = some true
  hdct : hasDictIn K D = true
  ha : findIn K (.ref D) "__class__" = some (some (.builtin "object.__class__"))
  hn : specialIn K (.builtin "object.__class__") "__get__" = some (some (.builtin "getset_descriptor.__get__"))
  htk : takesIn K (.builtin "object.__class__") = some true
  hm : mroIn K D (.type "object") = some true
theorem pu_found (T : PuX K D) : findObj K D oo "__class__" = some (.bind (.builtin "getset_descriptor.__get__") (.builtin "object.__class__")) := by
  obtain ⟨cd, hc, _⟩ := any_some T.hdct
  unfold findObj
  rw [hc, Option.bind_some, T.ha, Option.bind_some]
  simp [T.hn, T.htk]
theorem pu_class {Q : Option Value → Shared → Prop} (T : PuX K D) (X : K.In s.heap) (I : InstAt s.heap x ox D oo) (h : Q (some (.ref D)) { s with toks := s.toks + 1 }) :
    wpAny (model prog w) A (getAttr? (.ref x) "__class__") Q E s := by
  obtain ⟨hp, gn, dr, tk, os⟩ := s
  have K0 := I.type (M := model prog w)
  have K1 := looks_findIn (M := model prog w) X T.hga
  have K2 := looks_findIn (M := model prog w) X T.hgt
  have K3 := looks_find (M := model prog w) X I (pu_found (oo := oo) T)
  have isB : Looks (model prog w) hp (isInstance (.ref x) (.type "BaseException")) true := K0.andThen (looks_subIn X T.hsub)
  have z2 : (Value.builtin "BaseException.__getattribute__" == Value.builtin "object.__getattribute__") = false := by decide +kernel
  have z1 : (onTheHeap (Value.ref D) && Value.builtin "BaseException.__getattribute__" == Value.builtin "object.__getattribute__") = false := by
    rw [z2]
    rfl
  unfold getAttr? getAttrBy? getAttrBy
  refine wpAny_bind (wpAny_mkText (wpAny_bind ?_))
  refine wpAny_attempt (wpAny_holding (wpAny_bind (K0.at (wpAny_bind (K1.at ?_)))))
  show wpAny _ _ (if (onTheHeap (Value.ref D) && Value.builtin "BaseException.__getattribute__" == Value.builtin "object.__getattribute__") = true then _ else _) _ _ (⟨hp, gn, dr, tk + 1, os⟩ : Shared)
  rw [z1, if_neg Bool.false_ne_true]
  unfold getAttrByItsOwn hookBefore
  refine wpAny_bind (s := ⟨hp, gn, dr, tk + 1, os⟩) ?_
  rw [if_pos (by rfl : onTheHeap (Value.ref D) = true)]
  refine K2.at (wpAny_bind (wpAny_attempt (wpAny_holding ?_)))
  unfold callGetattribute
  rw [(by rfl : (false && onTheHeap (Value.builtin "BaseException.__getattribute__")) = false), if_neg Bool.false_ne_true]
  unfold boundAndCalled
  rw [PySem.F.excAttr_ValueError.ga.bind (.ref x)]
  refine wpAny_bind (wpAny_pure (s := ⟨hp, gn, dr, tk + 1, os⟩) ?_)
  show wpAny (model prog w) _ (call (Value.builtin "BaseException.__getattribute__") [Value.ref x, Value.str "__class__" tk]) _ _ _
  refine wpAny_call (s := ⟨hp, gn, dr, tk + 1, os⟩) (codeAny_call_builtin PySem.F.excAttr_ValueError.ga.plain PySem.F.entry_bexc_ga ?_)
  refine @check_slot (model prog w) _ _ (⟨hp, gn, dr, tk + 1, os⟩ : Shared) "BaseException.__getattribute__" "BaseException" "__getattribute__" (Value.ref x) [Value.str "__class__" tk] [] _ (by decide +kernel) (by decide +kernel) isB (PySem.F.args_bexc_ga (Value.ref x) (Value.str "__class__" tk)) ?_
  unfold Builtin.«object.__getattribute__»
  refine wpAny_bind (wpAny_of_eq (a := ((Value.ref x), [Value.str "__class__" tk])) (by first | rfl | (simp only [slotArgs]; rfl)) ?_)
  refine wpAny_bind (wpAny_pure (s := ⟨hp, gn, dr, tk + 1, os⟩) (wpAny_bind (K0.at (wpAny_bind (K3.at ?_)))))
  show wpAny (model prog w) _ (holding [Value.builtin "object.__class__"] (call (Value.builtin "getset_descriptor.__get__") [Value.builtin "object.__class__", Value.ref x, Value.ref D]) >>= ret) _ _ _
  refine wpAny_bind (wpAny_holding (s := ⟨hp, gn, dr, tk + 1, os⟩) (wpAny_call ?_))
  refine class_get (s := ⟨hp, gn, dr, tk + 1, os⟩) (ox := ox) (od := oo) X I T.hm ?_
  refine wpAny_pure (s := ⟨hp, gn, dr, tk + 1, os⟩) ?_
  show wpAny (model prog w) _ (handedOut (Value.ref D)) _ _ _
  rw [handedOut_of (v := Value.ref D) rfl]
  first
    | exact wpAny_pure (wpAny_pure h)
    | exact wpAny_pure h
    | exact wpAny_pure (wpAny_bind (wpAny_pure (wpAny_pure h)))
theorem pu_kitx (T : PuX K D) : KitX K (.ref x) (.ref D) (fun h => InstAt h x ox D oo) where
  ty := fun _ _ _ I => I.type
  it := fun _ _ X _ => by
    obtain ⟨cd, hc, _⟩ := any_some T.hdct
    unfold clsIn at hc
    split at hc
    · rename_i ho
      intro A1 Q1 E1 s1 kk q
      unfold isType loadHead
      apply wpAny_bind
      exact wpAny_loadPart (kk _ _ (X _ _ ho)) (wpAny_pure q)
    · cases hc
  ne := fun h tp dd its n sl X htp => by
    obtain ⟨cd, hc, _⟩ := any_some T.hdct
    cases hq : (Value.ref D == Value.ref tp) with
    | false => rfl
    | true =>
      obtain rfl : D = tp := Value.ref.inj (beq_iff_eq.mp hq)
      unfold clsIn at hc
      split at hc
      · rename_i ho
        cases (X _ _ ho).symm.trans htp
      · cases hc
  ca := fun X I k => pu_class T X I k
end
end PySem.W
namespace Pu
open PySem PySem.Spec PyProof.Rows L2

/-! ### several clauses, each with a name or without -/
inductive HdG (X : Cx) : List ExceptHandler → (Ends → WX → WX) → Prop
  | nil : HdG X [] fun _ Wout => Wout
  | plain {x : Str} {c : Value} {ts : Addr → Value → Option Addr → TS} {st0 : Stmt} {sts : List Stmt} {np hp : Pos} {hds : List ExceptHandler} {wr : Ends → WX → WX} (hc : Names X x c)
      (hsu : ∀ (a : Addr) (oe : Obj) (cls : Value) (d : Option Addr) (pn : List (Addr × Obj)), Zc cls d oe → (∃ vs, oe.data = .fields vs) → L2.PSs (X.suite a ((a, oe) :: pn)) (st0 :: sts) (ts a cls d)) (r : HdG X hds wr) :
      HdG X (.ExceptHandler (some (.Name x np)) none (st0 :: sts) hp :: hds) fun Dn Wout cls d σ H => ∃ k, PySem.W.exmOne X.K cls c = some k ∧ (k = true → ∀ a, H a = none → ts a cls d Dn σ H) ∧ (k = false → wr Dn Wout cls d σ H)
  | named {x n : Str} {i : Nat} {c : Value} {ts : Addr → Value → Option Addr → TS} {st0 : Stmt} {sts : List Stmt} {np hp : Pos} {hds : List ExceptHandler} {wr : Ends → WX → WX} (hi : X.N[i]? = some n) (hln : X.env.kindOf n = some .local) (hc : Names X x c)
      (hsu : ∀ (a : Addr) (oe : Obj) (cls : Value) (d : Option Addr) (pn : List (Addr × Obj)), Zc cls d oe → (∃ vs, oe.data = .fields vs) → L2.PSs (X.suite a ((a, oe) :: pn)) (st0 :: sts) (ts a cls d)) (r : HdG X hds wr) :
      HdG X (.ExceptHandler (some (.Name x np)) (some n) (st0 :: sts) hp :: hds) fun Dn Wout cls d σ H => ∃ k, PySem.W.exmOne X.K cls c = some k ∧
        (k = true → ∀ a, H a = none → ts a cls d { nx := fun σ' H' => Dn.nx (σ'.set i none) H', rt := Dn.rt, bk := fun σ' H' => Dn.bk (σ'.set i none) H', ct := fun σ' H' => Dn.ct (σ'.set i none) H' } (σ.set i (some (.ref a))) H) ∧ (k = false → wr Dn Wout cls d σ H)
section
variable {X : Cx} {body : List Stmt} {h0 : ExceptHandler} {hds : List ExceptHandler} {pos : Pos} {tb : WX → TS} {Wout : WX} {wr : Ends → WX → WX}
theorem ps_try_g (hs : X.stack = X.env :: X.outer) (hf : X.env.frame = some X.env.locals) (hN : X.N.Nodup) (tk : Takes X Wout)
    (hb : ∀ (V : WX) (pn : List (Addr × Obj)) (xe : Value → Shared → Prop), Takes (X.tr pn xe) V → PassesOwn (model X.prog X.w) X.A X.env xe → L2.PSs (X.tr pn xe) body (tb V)) (hh : HdG X (h0 :: hds) wr) :
    L2.PS X (.Try body (h0 :: hds) [] [] pos) (fun Dn σ H => tb (wr Dn Wout) Dn σ H) := by
  constructor
  intro pins s σ H Dn I hyp
  have ok := I.ok
  have fr : X.A.frames = some (X.env :: X.outer) := ok.frames.trans (by rw [hs])
  let catcher : Value → Shared → Prop := fun e t1 => wpAny (model X.prog X.w) X.A (noteFrame e X.env) (fun _ t2 =>
    wpAny (model X.prog X.w) X.A (setFlight e none) (fun _ t3 =>
      wpAny (model X.prog X.w) X.A (handleBy e X.env (h0 :: hds)) (SP X pins Dn) X.xe t3) X.xe t2) X.xe t1
  have took : Takes (X.tr (X.pn ++ pins) catcher) (wr Dn Wout) := by
    rintro u t1 ⟨a, Bh, sI, pn1, σ1, H1, cls, d, rfl, J1, nb, up, sky, na, os, ag, wsh⟩
    have J : Inv X pins σ1 H1 sI := J1.ofTry ok
    have sky1 : Sky Bh (X.env :: X.outer) a (Zc cls d) X.env.locals t1.heap := hs ▸ sky
    show wpAny (model X.prog X.w) X.A (noteFrame (Value.ref a) X.env) _ _ _
    refine Sky.land Zc.steady fr hf sky1 fun g3 fly3 up3 => ?_
    have J3 : Inv X pins σ1 H1 { t1 with heap := g3 } := J.landed nb fly3.1 (up.trans up3) os ag
    obtain ⟨o3, v3, at3, z3, d3⟩ := fly3.there
    have off3 : a ∉ frs (X.env :: X.outer) := by
      intro hm
      obtain ⟨_, o', q1, q2⟩ := fly3.2.2.1.mem hm
      cases at3.symm.trans q1
      exact q2 _ d3
    have ne1 : a ≠ X.env.locals := fun z => off3 (List.mem_filterMap.mpr ⟨X.env, List.mem_cons_self, hf.trans (congrArg some z.symm)⟩)
    have ne2 : a ∉ X.fs := by
      intro hm
      obtain ⟨e, q1, q2⟩ := List.mem_filterMap.mp hm
      exact off3 (List.mem_filterMap.mpr ⟨e, List.mem_cons_of_mem _ q1, q2⟩)
    have S3 := J3.suite at3 d3 na ne1 ne2
    have ty3 : PySem.W.Looks (model X.prog X.w) g3 (typeOf (.ref a)) cls := fun A1 Q1 E1 s1 kk q => wpAny_typeOf_ref (kk _ _ at3) (by rw [z3.1]; exact q)
    have named : ∀ {x : Str} {c : Value} {np : Pos}, Names X x c → ∀ {Q1 E1 : Value → Shared → Prop}, Q1 c { t1 with heap := g3 } →
        wpAny (model X.prog X.w) (X.A.mark (some (.ref a))) (eval (.Name x np) X.env) Q1 E1 { t1 with heap := g3 } := by
      intro x c np hc Q1 E1 q
      obtain ⟨g1, g2, m1 | ⟨m1, m2, m3⟩⟩ := hc
      · exact ld_glob (X := X.suite a ((a, o3) :: (X.pn ++ pins))) S3 g1 m1 q g2
      · exact ld_blt (X := X.suite a ((a, o3) :: (X.pn ++ pins))) S3 g1 m1 m2 q m3 g2
    have walk : ∀ {l : List ExceptHandler} {v : Ends → WX → WX}, HdG X l v → v Dn Wout cls d σ1 H1 →
        wpAny (model X.prog X.w) X.A (handleBy (.ref a) X.env l) (SP X pins Dn) X.xe { t1 with heap := g3 } := by
      intro l v hl
      induction hl with
      | nil =>
        intro q
        apply wpAny_handleBy_nil
        obtain ⟨_, _, _, oe, vs, Tr, _, _, q1, _, q2, q3, _⟩ := id fly3
        unfold PySem.passOn
        apply wpAny_bind
        refine wpAny_field q1 q2 q3 ?_
        rw [if_neg (by simp : ¬ ((Value.ref Tr == Value.none) = true))]
        have last : wpAny (model X.prog X.w) X.A (setFlight (Value.ref a) X.env.frame) (fun _ t4 => wpAny (model X.prog X.w) X.A (throw (Value.ref a) : Sem Flow) (SP X pins Dn) X.xe t4) X.xe { t1 with heap := g3 } := by
          rw [hf]
          refine HandSPX.setFlight_upZ fly3 fun g4 held4 up4 => ?_
          apply wpAny_throw
          apply tk
          exact ⟨a, Bh, sI, pins, σ1, H1, cls, d, rfl, J, nb, up.trans (up3.trans up4), Or.inr (Or.inr (hs.symm ▸ held4)), na, os, ag, q⟩
        first
          | exact wpAny_bind last
          | exact wpAny_bind (wpAny_pure (wpAny_bind last))
      | plain hc hsu hr ih =>
        rintro ⟨k, kx, yes, no⟩
        refine wpAny_handleBy_cons (codeAny_handlers_test ?_) (by intro q; cases q)
        refine named hc ((PySem.W.exm_one (M := model X.prog X.w) J3.kIn ty3 kx).here ?_)
        cases k with
        | false => exact ih (no rfl)
        | true =>
          refine codeAny_handlers_suite (HandSPX.lands_againZ fly3 fun g4 fly4 up4 => ?_)
          have J4 : Inv X pins σ1 H1 { t1 with heap := g4 } := J.landed nb fly4.1 (up.trans (up3.trans up4)) os ag
          obtain ⟨o4, v4, at4, z4, d4⟩ := fly4.there
          have S4 := J4.suite at4 d4 na ne1 ne2
          refine wpAny_mono ((hsu a o4 cls d (X.pn ++ pins) z4 ⟨_, d4⟩).run [] _ σ1 H1 Dn S4 (yes rfl a na)) (fun f t6 r => ?_) (fun _ _ z => z.elim)
          cases f with
          | ret u => obtain ⟨w6, σ6, H6, S6, rw6, q6⟩ := r; exact ⟨w6, σ6, H6, S6.unsuite ok, rw6, q6⟩
          | next => obtain ⟨σ6, H6, S6, q6⟩ := r; exact ⟨σ6, H6, S6.unsuite ok, q6⟩
          | brk => obtain ⟨σ6, H6, S6, q6⟩ := r; exact ⟨σ6, H6, S6.unsuite ok, q6⟩
          | cont => obtain ⟨σ6, H6, S6, q6⟩ := r; exact ⟨σ6, H6, S6.unsuite ok, q6⟩
      | @named x n i c ts st0 sts np hp hds2 wr2 hi hln hc hsu hr ih =>
        rintro ⟨k, kx, yes, no⟩
        refine wpAny_handleBy_cons (codeAny_handlers_test ?_) (by intro q; cases q)
        refine named hc ((PySem.W.exm_one (M := model X.prog X.w) J3.kIn ty3 kx).here ?_)
        cases k with
        | false => exact ih (no rfl)
        | true =>
          refine codeAny_handlers_suite_as (HandSPX.lands_againZ fly3 fun g4 fly4 up4 => ?_)
          have J4 : Inv X pins σ1 H1 { t1 with heap := g4 } := J.landed nb fly4.1 (up.trans (up3.trans up4)) os ag
          obtain ⟨o4, v4, at4, z4, d4⟩ := fly4.there
          have S4 := J4.suite at4 d4 na ne1 ne2
          refine store_ok (X := X.suite a ((a, o4) :: (X.pn ++ pins))) (v := V.ref a) S4 hN hi (.inl hln) rfl (fun t5 S5 => ?_) (.inr hln)
          refine wpAny_mono ((hsu a o4 cls d (X.pn ++ pins) z4 ⟨_, d4⟩).run [] t5 _ H1 _ S5 (yes rfl a na)) (fun f t6 r => ?_) (fun _ _ z => z.elim)
          have done : ∀ {σ6 : L2.St} {H6 : Hp} {Q6 : Shared → Prop}, Inv (X.suite a ((a, o4) :: (X.pn ++ pins))) [] σ6 H6 t6 → (∀ t7, Inv X pins (σ6.set i none) H6 t7 → Q6 t7) →
              wpAny (model X.prog X.w) X.A (do bindName X.env n .none; unbindBehindTheSuite X.env n hp) (fun _ t7 => Q6 t7) X.xe t6 := fun S6 q => gone_ok (S6.unsuite ok) hN hi hln q
          cases f with
          | ret u => obtain ⟨w6, σ6, H6, S6, rw6, q6⟩ := r; exact done S6 fun t7 J7 => ⟨w6, _, H6, J7, rw6, q6⟩
          | next => obtain ⟨σ6, H6, S6, q6⟩ := r; exact done S6 fun t7 J7 => ⟨_, H6, J7, q6⟩
          | brk => obtain ⟨σ6, H6, S6, q6⟩ := r; exact done S6 fun t7 J7 => ⟨_, H6, J7, q6⟩
          | cont => obtain ⟨σ6, H6, S6, q6⟩ := r; exact done S6 fun t7 J7 => ⟨_, H6, J7, q6⟩
    exact walk hh wsh
  apply wpAny_Try_except
  refine wpAny_mono ((hb (wr Dn Wout) (X.pn ++ pins) catcher took PassesOwn.looking).run [] s σ H Dn (I.toTry _) hyp) (fun f t1 r => ?_) (fun e t1 he => he)
  cases f with
  | ret u => obtain ⟨w1, σ1, H1, J1, rw1, q1⟩ := r; exact ⟨w1, σ1, H1, J1.ofTry ok, rw1, q1⟩
  | next => obtain ⟨σ1, H1, J1, q1⟩ := r; exact wpAny_execs_nil ⟨σ1, H1, J1.ofTry ok, q1⟩
  | brk => obtain ⟨σ1, H1, J1, q1⟩ := r; exact ⟨σ1, H1, J1.ofTry ok, q1⟩
  | cont => obtain ⟨σ1, H1, J1, q1⟩ := r; exact ⟨σ1, H1, J1.ofTry ok, q1⟩
end
end Pu
set_option Elab.async false
set_option linter.all false
set_option maxRecDepth 100000
set_option maxHeartbeats 2000000
/-! Pu8: errors over data, lists and texts repeated, calls -/
namespace Pu
open PySem PySem.Spec PyProof.Rows L2

/-! ### lists and texts times a number -/
def strRep (z : Str) (n : Nat) : Str := ⟨(List.replicate n z.cps.toList).flatten.toArray⟩
theorem foldl_cat (n : Nat) (x : Array Nat) : ∀ acc : Array Nat, (List.replicate n x).foldl (· ++ ·) acc = acc ++ ((List.replicate n x.toList).flatten).toArray := by
  induction n with
  | zero => intro acc; simp
  | succ n ih =>
    intro acc
    rw [List.replicate_succ, List.foldl_cons, ih, List.replicate_succ, List.flatten_cons]
    apply Array.ext'
    simp
def rMulS : R2 := fun x y H Q => ∃ z k, x = .str z ∧ y = .int k ∧ 0 ≤ k ∧ k < 2 ^ 62 ∧ z.length ≤ 16777216 ∧ z.length * k.toNat ≤ 16777216 ∧ Q (.str (strRep z k.toNat)) H
theorem op_mulS {X : Cx} : OpR X (binaryOp .Mult) rMulS := by
  intro pins s σ H x y v u Q I rx ry h
  obtain ⟨z, k, rfl, rfl, h0, h1, h2, h3, q⟩ := h
  obtain ⟨t, rfl⟩ := rx
  obtain ⟨t', rfl⟩ := ry
  have e1 : decide (k < -(2 ^ 63 : Int)) = false := decide_eq_false (by omega)
  have e2 : decide (k ≥ (2 : Int) ^ 63) = false := decide_eq_false (by omega)
  refine PySem.P.mul_str (by rw [e1, e2]; rfl) (fun a b => ?_) (fun a b => ?_) ?_
  · have hk : 1 ≤ k := by omega
    intro c
    have d : (2 ^ 63 - 1 : Int) / k * k ≤ 2 ^ 63 - 1 := Int.ediv_mul_le _ (by omega)
    have e : ((z.length : Int)) * k ≤ 16777216 := by
      have h4 := Int.ofNat_le.mpr h3
      rw [Int.natCast_mul, Int.toNat_of_nonneg h0] at h4
      exact h4
    have f : (2 ^ 63 - 1 : Int) < ((2 ^ 63 - 1 : Int) / k + 1) * k := Int.lt_ediv_add_one_mul_self _ (by omega)
    have g : ((2 ^ 63 - 1 : Int) / k + 1) * k ≤ (z.length : Int) * k := Int.mul_le_mul_of_nonneg_right (by omega) (by omega)
    omega
  · unfold Builtin.Str.tooLong
    exact decide_eq_false (by rw [sizeLine_eq]; omega)
  · by_cases c1 : k < 1
    · rw [if_pos c1]
      have hk : k.toNat = 0 := by omega
      rw [hk] at q
      refine ⟨by decide, ?_⟩
      have : strRep z 0 = Str.empty := by simp [strRep, Str.empty]
      rw [this] at q
      exact ⟨.str _, H, I.tok _, ⟨_, rfl⟩, q⟩
    · rw [if_neg c1]
      by_cases c2 : (k == 1 || z.length == 0) = true
      · rw [if_pos c2]
        have : strRep z k.toNat = z := by
          simp only [Bool.or_eq_true, beq_iff_eq] at c2
          rcases c2 with c2 | c2
          · subst c2
            simp [strRep]
          · have : z.cps.toList = [] := by
              have : z.cps.size = 0 := c2
              simpa using this
            have e0 : z = ⟨#[]⟩ := by
              cases z
              simp at this
              simp [this]
            rw [e0]
            simp [strRep]
        rw [this] at q
        exact ⟨.str _, H, I.tok _, ⟨_, rfl⟩, q⟩
      · rw [if_neg c2]
        have e : (⟨List.foldl (fun x1 x2 => x1 ++ x2) #[] (List.replicate k.toNat z.cps)⟩ : Str) = strRep z k.toNat := by
          unfold strRep
          rw [foldl_cat]
          simp
        rw [e]
        refine ⟨?_, .str _, H, I.tok _, ⟨_, rfl⟩, q⟩
        show (strRep z k.toNat).cps.size ≤ sizeLine
        have : (strRep z k.toNat).cps.size = k.toNat * z.length := by
          unfold strRep Str.length
          simp
        rw [this, sizeLine_eq, Nat.mul_comm]
        exact h3
@[simp] def fMulA : F2 := fun x y q => match x, y with
  | .int i, .int j => CMul i j ∧ q (.fz (.int (i * j)))
  | .lst xs, .int k => (0 ≤ k ∧ k < 2 ^ 62 ∧ xs.length * k.toNat ≤ 16777216) ∧ q (.ls true (List.replicate k.toNat xs).flatten)
  | .str z, .int k => (0 ≤ k ∧ k < 2 ^ 62 ∧ z.length ≤ 16777216 ∧ z.length * k.toNat ≤ 16777216) ∧ q (.fz (.str (strRep z k.toNat)))
  | _, _ => False
theorem Rps.rep {K : PySem.W.Frag} {G : Hp} {vs : List V} {ds : List D} (r : Rps K G vs ds) (n : Nat) : Rps K G (List.replicate n vs).flatten (List.replicate n ds).flatten := by
  induction n with
  | zero => exact .nil
  | succ n ih =>
    rw [List.replicate_succ, List.replicate_succ, List.flatten_cons, List.flatten_cons]
    exact r.append ih
def rMulAll : R2 := fun x y H Q => rI CMul (fun i j => V.int (i * j)) x y H Q ∨ rRep x y H Q ∨ rMulS x y H Q
theorem rule_mulA {K : PySem.W.Frag} : Rule2 K rMulAll fMulA := by
  intro U H v1 v2 d1 d2 Q q hU r1 r2 hf k
  cases d1 <;> cases d2 <;> first | exact hf.elim | skip
  · cases r1
    cases r2
    exact .inl ⟨_, _, rfl, rfl, hf.1, k _ H (.fz (.int _)) (Same.refl H) (.int _) hf.2⟩
  · cases r1
    cases r2
    exact .inr (.inr ⟨_, _, rfl, rfl, hf.1.1, hf.1.2.1, hf.1.2.2.1, hf.1.2.2.2, k _ H (.fz (.str _)) (Same.refl H) (.str _) hf.2⟩)
  · cases r1 with
    | lst h s =>
      cases r2
      refine .inr (.inl ⟨_, _, _, rfl, rfl, off_in _ _ h, by have := hf.1.1; omega, by have := hf.1.2.1; omega, by rw [s.length]; exact small_size hf.1.2.2, fun p np => ?_⟩)
      exact k _ _ (.ls true _) (same_upd np) ⟨p, _, rfl, rfl, np, upd_same, (s.rep _).mono (off_new (same_upd np) np)⟩ hf.2
section
variable {X : Cx} {W : WX} {e a b c : Expr} {es : List Expr} {ta tb te : RE} {ra : RA} {pos : Pos} {st : Stmt} {sts : List Stmt} {t u : RS}
theorem op_mulAll : OpR X (binaryOp .Mult) rMulAll := op_mul.or (op_rep.or op_mulS)
noncomputable def de_mulA (ha : DE X W a ta) (hb : DE X W b tb) : DE X W (.BinOp a .Mult b pos) (r2 fMulA ta tb) := de_op op_mulAll rule_mulA ha hb
@[simp] def fNeg (d : D) (q : S → Prop) : Prop := match d with
  | .int i => q (.fz (.int (-i)))
  | _ => False
noncomputable def de_neg (ha : DE X W a ta) : DE X W (.UnaryOp .USub a pos) (Pu.r1 fNeg ta) where
  te := _
  p := pe_un un_neg ha.p
  g := fun U env σ H Q q x hE h k hx => by
    refine ge_d ha.g (q := fun d => fNeg d q) hE h (fun v H1 d e1 r1 hq => ?_) hx
    cases d <;> first | exact hq.elim | skip
    cases r1
    exact ⟨_, rfl, k _ H1 (.fz (.int _)) e1 (.int _) hq⟩

/-! ### own defs, by their promises -/
structure Cal (P : Program) (w : World) (K : PySem.W.Frag) (mg : Str → Option Value) (base : Heap) (k : Nat) (x : Str) (ps : List Str) (φ : FSp) where
  f : Addr
  fd : FuncData
  ok : FnOk P w K mg base (L2.CX P w) k f fd ps (spF K φ)
  mg : mg x = some (.ref f)
  kp : PySem.W.keepIn K (.ref f) = true
  b : Binds K fd ps []
noncomputable def de_fn {x : Str} {p : Pos} {k : Nat} {ps : List Str} {φ : FSp} (c : Cal X.prog X.w X.K X.mg X.base k x ps φ) (tk : Takes X W) (hr : Room k X.A) (ha : DA X W (e :: es) ra) (hg : Gl X x := by rfl) (hdb : (x == ("__debug__" : Str)) = false := by decide)
    (he : starEach (e :: es) X.env = (false, eval e X.env) :: starEach es X.env := by rfl) (hpl : (backTo pos (starEach es X.env)).any (·.1) = false := by rfl) : DE X W (.Call (.Name x p) (e :: es) [] pos) (rFn φ ra) := de_call c.ok tk hr c.mg c.kp c.b ha hg hdb he hpl

/-! ### a def that changes its first argument, a list -/
abbrev GSp := List D → List D → (D → List D → Prop) → PX → Prop
def spG (K : PySem.W.Frag) (ψ : GSp) : Sp := fun vs H Q E => ∃ (U : Addr → Prop) (p : Addr) (vs0 ws : List V) (ds0 ds : List D) (q : D → List D → Prop) (x : PX), (∀ a, U a → (H a).isSome = true) ∧ vs = .ref p :: ws ∧ U p ∧ H p = some (.lst vs0) ∧ Rps K (off H U) vs0 ds0 ∧ Rps K (off H U) ws ds ∧ ψ ds0 ds q x ∧
  (∀ v H' d vs1 ds1, q d ds1 → But p H H' → Rp K (off H' U) v d → H' p = some (.lst vs1) → Rps K (off H' U) vs1 ds1 → Q v H') ∧ ∀ c fs d H', x c fs → But p H H' → (H' p).isSome = true → Xv K U H H' d fs → E c d H'
structure CalG (P : Program) (w : World) (K : PySem.W.Frag) (mg : Str → Option Value) (base : Heap) (k : Nat) (x : Str) (ps : List Str) (ψ : GSp) where
  f : Addr
  fd : FuncData
  ok : FnOk P w K mg base (L2.CX P w) k f fd ps (spG K ψ)
  mg : mg x = some (.ref f)
  kp : PySem.W.keepIn K (.ref f) = true
  b : Binds K fd ps []
/-- y = f(xs, ..), xs a list of one's own -/
@[simp] def wCallG (ψ : GSp) (i j : Nat) (ra : RA) : RS := fun P x env => match env[i]? with
  | some (some (.ls k ds0)) => ra env (fun ds => ψ ds0 ds (fun d ds1 => P.nx ((env.set i (some (.ls k ds1))).set j (some (.fz d)))) fun c fs => x c fs (env.set i none)) fun c fs => x c fs env
  | _ => False
noncomputable def ds_callG (i j : Nat) {x y z : Str} {p pn pz px : Pos} {k : Nat} {ps : List Str} {ψ : GSp} (c : CalG X.prog X.w X.K X.mg X.base k x ps ψ) (tk : Takes X W) (hr : Room k X.A) (hNd : X.N.Nodup) (ha : DA X W es ra) (hN : X.N[i]? = some y := by rfl)
    (hv : Vis X.env.scope y := by first | exact Or.inl rfl | exact Or.inr (Or.inl rfl) | exact Or.inr (Or.inr rfl)) (hd : (y == ("__debug__" : Str)) = false := by decide) (hcd : (y == ("__classdict__" : Str)) = false := by decide) (hg : Gl X x := by rfl) (hdb : (x == ("__debug__" : Str)) = false := by decide)
    (he : starEach (.Name y pn :: es) X.env = (false, eval (.Name y pn) X.env) :: starEach es X.env := by rfl) (hpl : (backTo p (starEach es X.env)).any (·.1) = false := by rfl) (hj : X.N[j]? = some z := by rfl) (hx : L2.Loc X.env.scope z := by first | exact Or.inl rfl | exact Or.inr rfl)
    (hs : swapsWith (.Call (.Name x px) (.Name y pn :: es) [] p) (some (.Name z pz)) pos.line X.env = pure false := by rfl) (hf : X.fn z = true ∨ X.env.scope.names.lookup z = some .local := by first | exact .inl rfl | exact .inr rfl | assumption) :
    DS X W (.Assign [.Name z pz] (.Call (.Name x px) (.Name y pn :: es) [] p) pos) (wCallG ψ i j ra) where
  ts := _
  p := ps_set hNd hj hx (pe_callS c.ok hr hg c.mg c.kp c.b (fun σ => passAt tk σ) (pa_cons (pe_var hN hv hd hcd) ha.p he) hdb he hpl) hs hf
  g := fun B H0 M G0 σ H env Dn P xx hB h ht kk => by
    obtain ⟨U, ps', h⟩ := h
    unfold wCallG at ht
    split at ht
    · rename_i kf ds0 ee
      obtain ⟨p0, vs0, a1, a2, a3, a4⟩ := h.at_.getL ee
      refine ⟨_, a1, ?_⟩
      refine ha.g U env σ H _ _ _ h.en ht (fun vs H1 ds e1 r1 hq => ?_) (kk.gx h)
      have h1 := h.grow e1
      obtain ⟨p1, vs1, b1, b2, b3, b4⟩ := h1.at_.getL ee
      rw [a1] at b1
      cases b1
      refine ⟨U, p0, vs1, vs, ds0, ds, _, _, h1.isS, rfl, (h1.own _ b4).1, b2, b3, r1, hq, fun v H2 d vs2 ds2 hq2 bt rd hp2 r2 => ?_, fun c fs d H2 hx bt hS hv => ?_⟩
      · exact kk.nx _ _ _ hq2 ((h1.chg ee a1 b4 bt hp2 r2).set j (s := .fz d) (Same.refl _) rd)
      · obtain ⟨qs, h2⟩ := h1.lost ee a1 b4 bt hS
        exact kk.ex c fs d σ H2 _ U qs hx hv h2
    · exact ht.elim
/-- the slots at such a def's entry -/
@[simp] def startG (N : Nat) (ds0 ds : List D) : Env := some (.ls false ds0) :: (ds.map (fun d => some (.fz d)) ++ List.replicate (N - (ds.length + 1)) none)
theorem def_okG {P : Program} {w : World} {K : PySem.W.Frag} {mg : Str → Option Value} {base : Heap} {x qual : Str} {st : Stmt} {f : Addr} {fd : FuncData} {N ps : List Str} {k : Nat} {ψ : GSp} (F : Fun K x qual st f fd) (S : FnScope N ps (defScope st)) (len : ∀ ds0 ds q x, ψ ds0 ds q x → ds.length + 1 = ps.length)
    (hbody : ∀ (cdv : Value) (A : Around) (outer : List PySem.Env) (s : Shared) (H : Hp) (E : XK), Room k (A.deeper (envOfC qual (defScope st) s.heap.objs.size f cdv)) → Takes (cxOf (L2.CX P w) P w K mg base N qual (defScope st) f cdv A outer s H E) (fun c d _ H => E c d H) →
      Body (cxOf (L2.CX P w) P w K mg base N qual (defScope st) f cdv A outer s H E) (fun c d _ H => E c d H) (defBody st) fun t => ∀ ds0 ds q x, ψ ds0 ds q x →
        t { nx := fun _ => False, rt := fun s env => ∃ ds1, env[0]? = some (some (.ls false ds1)) ∧ q s.d ds1 } (fun c fs _ => x c fs) (startG N.length ds0 ds)) :
    FnOk P w K mg base (L2.CX P w) (k + 1) f fd ps (spG K ψ) := by
  refine F.okX S (fun vs H Q E h => ?_) (fun cdv A outer s H vs Q E hr h => ?_)
  · obtain ⟨U, p, vs0, ws, ds0, ds, q, x, _, rfl, _, _, _, r, hψ, _⟩ := h
    rw [List.length_cons, r.length]
    exact len _ _ _ _ hψ
  · obtain ⟨t, ⟨ts, pp, g⟩, ok⟩ := hbody cdv A outer s H E hr (takes_of rfl rfl rfl rfl)
    refine ⟨ts, pp, ?_⟩
    obtain ⟨U, p, vs0, ws, ds0, ds, q, x, hU, rfl, hp, hv, r0, r, hψ, hq, hx⟩ := h
    have hl := r.length
    have h0 : SnU K U H [p] (off H U) U [(p, false)] H (L2.start N (.ref p :: ws)) (startG N.length ds0 ds) := by
      refine ⟨hU, fun a z => z, ?_, by simp, fun q hq => ?_, fun a o h _ => h, fun a h => ?_, Same.refl _⟩
      · unfold L2.start startG
        rw [List.length_cons, hl]
        exact .ls hv r0 (r.start _)
      · rw [List.mem_singleton] at hq
        subst hq
        exact ⟨hp, fun z => (by cases z), fun _ => by simp⟩
      · rw [List.mem_singleton] at h
        subst h
        exact hU _ hp
    have bt : ∀ {H' : Hp} {σ : L2.St} {env : Env}, Sn K U H [p] (off H U) H' σ env → But p H H' := fun ⟨_, _, z⟩ a o n e => z.keep a o e (by simpa using n)
    have hS : ∀ {H' : Hp} {σ : L2.St} {env : Env}, Sn K U H [p] (off H U) H' σ env → (H' p).isSome = true := fun ⟨_, _, z⟩ => z.args p (by simp)
    refine g U H [p] (off H U) _ H _ _ _ _ hU h0.sn (ok ds0 ds q x hψ) ⟨fun _ _ _ z => z.elim, fun _ _ _ z => z.elim, fun _ _ _ z => z.elim, fun v σ H' env s' z sv s => ?_, fun c fs d σ H' env U' ps' z hv s => hx c fs d H' z (bt s.sn) (hS s.sn) (Xr.mono (off_sub s.sub) hv)⟩
    obtain ⟨ds1, z1, z2⟩ := z
    obtain ⟨U2, qs, s2⟩ := id s
    obtain ⟨p2, vs2, c1, c2, c3, c4⟩ := s2.at_.getL z1
    have e2 : p2 = p := by
      have := (s2.own _ c4).2.2 rfl
      simpa using this
    subst e2
    refine hq v H' s'.d vs2 ds1 z2 (bt s) (sv.fz hU) c2 (c3.mono (off_sub s2.sub))

/-! ### errors raised -/
theorem Rpf.append {K : PySem.W.Frag} {G : Hp} : ∀ {vs ws : List (Str × V)} {ds es : List (Str × D)}, Rpf K G vs ds → Rpf K G ws es → Rpf K G (vs ++ ws) (ds ++ es)
  | _, _, _, _, .nil, s => s
  | _, _, _, _, .cons h r, s => .cons h (Rpf.append r s)
theorem Rpf.reverse {K : PySem.W.Frag} {G : Hp} : ∀ {vs : List (Str × V)} {ds : List (Str × D)}, Rpf K G vs ds → Rpf K G vs.reverse ds.reverse
  | _, _, .nil => .nil
  | _, _, .cons h r => by
    rw [List.reverse_cons, List.reverse_cons]
    exact (Rpf.reverse r).append (.cons h .nil)
theorem Rps.zip {K : PySem.W.Frag} {G : Hp} : ∀ {vs : List V} {ds : List D} (fs : List Str), Rps K G vs ds → Rpf K G (fs.zip vs) (fs.zip ds)
  | _, _, [], r => by simp; exact .nil
  | _, _, f :: fs, .nil => by simp; exact .nil
  | _, _, f :: fs, .cons h r => .cons h (Rps.zip fs r)
theorem Rpf.lookup {K : PySem.W.Frag} {G : Hp} {f : Str} {d : D} : ∀ {vs : List (Str × V)} {ds : List (Str × D)}, Rpf K G vs ds → ds.lookup f = some d → ∃ v, vs.lookup f = some v ∧ Rp K G v d
  | _, _, .nil, e => by simp at e
  | (g, v) :: vs, (_, d') :: ds, .cons h r, e => by
    rw [List.lookup_cons] at e ⊢
    cases hg : f == g with
    | true =>
      rw [hg] at e
      cases e
      exact ⟨v, rfl, h⟩
    | false =>
      rw [hg] at e
      exact r.lookup e
/-- what the __init__ of an own error keeps: its arguments as fields -/
def spX (C : Addr) (fs : List Str) : Sp := fun vs H Q _ => ∃ (a : Addr) (ws : List V), vs = .ref a :: ws ∧ ws.length = fs.length ∧ H a = some (exo a C none) ∧ ∀ dx H', H dx = none → dx ≠ a → H' a = some (exo a C (some dx)) → H' dx = some (exd dx (fs.zip ws).reverse) → (∀ b, b ≠ a → b ≠ dx → H' b = H b) → Q .non H'
theorem spX_len {C : Addr} {fs : List Str} {n : Nat} (hn : fs.length + 1 = n) : ∀ vs H Q E, spX C fs vs H Q E → vs.length = n := fun vs H Q E ⟨a, ws, e, hl, _⟩ => by
  subst e
  rw [List.length_cons, hl]
  exact hn
theorem readX1 {K : PySem.W.Frag} {C : Addr} {f : Str} {vs : List V} {H : Hp} {Q : VK} {E : XK} {N : List Str} (T : OexC K C) (no : PySem.W.findIn K (.ref C) f = some none) (h : spX C [f] vs H Q E) (hN : N.length = 2) :
    tOst K f (tVar 0) (tVar 1) { nx := fun _ H' => Q .non H', rt := Q } (L2.start N vs) H := by
  obtain ⟨a, ws, rfl, hl, ha, k⟩ := h
  obtain ⟨y, rfl⟩ : ∃ y, ws = [y] := by
    match ws, hl with
    | [y], _ => exact ⟨y, rfl⟩
  refine ⟨y, rfl, .ref a, rfl, a, C, rfl, T, no, .inl ⟨ha, fun dx n ne => ?_⟩⟩
  refine k dx _ n ne upd_same ?_ fun b h1 h2 => ?_
  · rw [upd_ne ne, upd_same]
    rfl
  · rw [upd_ne h1, upd_ne h2]
theorem readX2 {K : PySem.W.Frag} {C : Addr} {f g : Str} {vs : List V} {H : Hp} {Q : VK} {E : XK} {N : List Str} (T : OexC K C) (no : PySem.W.findIn K (.ref C) f = some none) (no2 : PySem.W.findIn K (.ref C) g = some none) (h : spX C [f, g] vs H Q E) (hN : N.length = 3) :
    tSeq (tOst K f (tVar 0) (tVar 1)) (tOst K g (tVar 0) (tVar 2)) { nx := fun _ H' => Q .non H', rt := Q } (L2.start N vs) H := by
  obtain ⟨a, ws, rfl, hl, ha, k⟩ := h
  obtain ⟨y, z, rfl⟩ : ∃ y z, ws = [y, z] := by
    match ws, hl with
    | [y, z], _ => exact ⟨y, z, rfl⟩
  refine ⟨y, rfl, .ref a, rfl, a, C, rfl, T, no, .inl ⟨ha, fun dx n ne => ?_⟩⟩
  refine ⟨z, rfl, .ref a, rfl, a, C, rfl, T, no2, .inr ⟨dx, [(f, y)], upd_same, ?_, (by show 1 ≤ 900; decide), ?_⟩⟩
  · rw [upd_ne ne, upd_same]
  · refine k dx _ n ne ?_ ?_ fun b h1 h2 => ?_
    · rw [upd_ne (Ne.symm ne), upd_same]
    · rw [upd_same]
      rfl
    · rw [upd_ne h2, upd_ne h1, upd_ne h2]
/-- an own error class over ValueError, its __init__ keeping its arguments -/
structure Err (P : Program) (w : World) (K : PySem.W.Frag) (mg : Str → Option Value) (base : Heap) (x : Str) (fs : List Str) where
  C : Addr
  fI : Addr
  fd : FuncData
  ps : List Str
  oex : OexC K C
  iC : PySem.W.findIn K (.ref C) "__init__" = some (some (.ref fI))
  tI : PySem.W.typeIn K (.ref fI) = some (.type "function")
  ok : FnOk P w K mg base CX0 1 fI fd ps (spX C fs)
  b : Binds K fd ps []
  mg : mg x = some (.ref C)
  no : ∀ f ∈ fs, PySem.W.findIn K (.ref C) f = some none
  xf : XfC K C
/-- raise C(..) -/
@[simp] def wRaise (C : Addr) (fs : List Str) (ra : RA) : RS := fun P x env => ra env (fun ds => (ds.length = fs.length ∧ ds.length ≤ 1000) ∧ x (.ref C) (fs.zip ds).reverse env) fun c fs => x c fs env
noncomputable def ds_raise {x : Str} {fs : List Str} {p pos2 : Pos} (T : Err X.prog X.w X.K X.mg X.base x fs) (hc : X.calm = true) (tk : Takes X W) (hr : Room 2 X.A) (ha : DA X W (e :: es) ra) (hg : Gl X x := by rfl) (hdb : (x == ("__debug__" : Str)) = false := by decide)
    (he : starEach (e :: es) X.env = (false, eval e X.env) :: starEach es X.env := by rfl) (hpl : (backTo pos (starEach es X.env)).any (·.1) = false := by rfl) : DS X W (.Raise (some (.Call (.Name x p) (e :: es) [] pos)) none pos2) (wRaise T.C fs ra) where
  ts := _
  p := ps_raise hc tk (pmk_oex T.oex T.iC T.tI T.ok hr T.b .nil pass0 hg T.mg ha.p hdb he hpl)
  g := fun B H0 M G0 σ H env Dn P xx hB h ht kk => by
    obtain ⟨U, ps', h⟩ := h
    refine ha.g U env σ H _ _ _ h.en ht (fun vs H1 ds e1 r1 hq => ?_) (kk.gx h)
    have h1 := h.grow e1
    refine ⟨by rw [r1.length]; exact hq.1.2, fun a na => ?_⟩
    rw [List.append_nil]
    refine ⟨a, vs, rfl, by rw [r1.length]; exact hq.1.1, upd_same, fun dx H2 n ne q1 q2 q3 => ⟨rfl, dx, _, q1, q2, ?_, ?_⟩⟩
    · rw [upd_ne ne] at n
      exact n
    · have n1 : H1 dx = none := by
        rw [upd_ne ne] at n
        exact n
      have sm : Same H1 (upd (del H2 a) dx (.xd (fs.zip vs).reverse)) := fun b o hb => by
        have b1 := ne_of_none hb n1
        have b2 := ne_of_none hb na
        rw [upd_ne b1, del_ne b2, q3 b b2 b1, upd_ne b2]
        exact hb
      refine kk.ex _ _ _ σ _ env U ps' hq.2 (.inr ⟨dx, _, rfl, off_some.mpr ⟨new_off h1.isS n1, upd_same⟩, ?_⟩) (h1.grow sm)
      exact ((r1.zip fs).reverse).mono (off_mono sm)

/-! ### errors caught -/
/-- e.f, e the error that the suite holds -/
@[simp] def rXf (i : Nat) (a : Addr) (c : Value) (d : Option Addr) (C : Addr) (f : Str) : RE := fun env q _ => match env[i]? with
  | some (some (.exn a' c' d' fs)) => (a' = a ∧ c' = c ∧ d' = d ∧ c = .ref C) ∧ ∃ y, fs.lookup f = some y ∧ q (.fz y)
  | _ => False
noncomputable def de_xf (i : Nat) {a C : Addr} {oe : Obj} {cls : Value} {d : Option Addr} {pn : List (Addr × Obj)} {y n : Str} {p1 : Pos} (T : XfC X.K C) (no : PySem.W.findIn X.K (.ref C) n = some none) (hz : Zc cls d oe) (hf : ∃ vs, oe.data = .fields vs)
    (hN : X.N[i]? = some y := by rfl) (hv : Vis X.env.scope y := by first | exact Or.inl rfl | exact Or.inr (Or.inl rfl) | exact Or.inr (Or.inr rfl)) (hd : (y == ("__debug__" : Str)) = false := by decide) (hcd : (y == ("__classdict__" : Str)) = false := by decide)
    (hb : attributeBase (.Name y p1) n X.env (eval (.Name y p1) X.env) = eval (.Name y p1) X.env := by rfl) : DE (X.suite a ((a, oe) :: pn)) W (.Attribute (.Name y p1) n pos) (rXf i a cls d C n) where
  te := _
  p := pe_xf T no hz hf (pe_var (X := X.suite a ((a, oe) :: pn)) hN hv hd hcd) hb
  g := fun U env σ H Q q x hE h k hx => by
    obtain ⟨_, ps, hA, _⟩ := hE
    unfold rXf at h
    split at h
    · rename_i a' c' d' fs e
      obtain ⟨⟨rfl, rfl, rfl, hcl⟩, y, hy, hq⟩ := h
      obtain ⟨h1, h2⟩ := hA.getX e
      rcases h2 with ⟨_, rfl⟩ | ⟨dd, vf, rfl, h4, h5⟩
      · simp at hy
      · obtain ⟨v, hv, rv⟩ := h5.lookup hy
        exact ⟨_, h1, rfl, hcl, dd, vf, v, rfl, off_in _ _ h4, hv, k v H (.fz y) (Same.refl H) rv hq⟩
    · exact h.elim
/-- isinstance(e, C2), e the error that the suite holds, C2 an own class -/
@[simp] def rXi (K : PySem.W.Frag) (i : Nat) (a : Addr) (c : Value) (d : Option Addr) (C C2 : Addr) : RE := fun env q _ => match env[i]? with
  | some (some (.exn a' c' d' fs)) => (a' = a ∧ c' = c ∧ d' = d ∧ c = .ref C ∧ d ≠ none) ∧ ∃ k, PySem.W.kitOne K (.ref C) (.ref C2) = some k ∧ q (.fz (.bl k))
  | _ => False
/-- the class object of an own dict of an error holds no __class__ -/
structure XiC (K : PySem.W.Frag) (C : Addr) : Prop where
  x : PySem.W.PuX K C
theorem inst_x {X : Cx} {pins : List (Addr × Obj)} {σ : L2.St} {H : Hp} {s : Shared} {a C dd : Addr} {oe : Obj} {vf : List (Str × V)} (I : Inv X pins σ H s) (hg : s.heap.get? a = some oe) (hz : Zc (.ref C) (some dd) oe) (hf : ∃ vs, oe.data = .fields vs) (hd : H dd = some (.xd vf)) :
    ∃ od, PySem.W.InstAt s.heap a oe C (some od) := by
  obtain ⟨vs, hv⟩ := hf
  obtain ⟨mA, hns, _⟩ := (show ObjOk X.prog X.w H s.heap dd (.xd vf) from I.hok dd _ hd)
  obtain ⟨od, ho, _⟩ := lookIn_ns hns
  exact ⟨od, hg, hz.1, by unfold PySem.W.notCls; rw [hv] <;> rfl, by rw [hz.2]; exact ho⟩
def rIsX (K : PySem.W.Frag) (C : Addr) (a dd : Addr) : List V → Hp → VK → Prop := fun xs H Q => ∃ (c : V) (cv : Value) (b : Bool) (vf : List (Str × V)), xs = [.ref a, c] ∧ (∀ u, RelV c u → u = cv) ∧ H dd = some (.xd vf) ∧ PySem.W.kitOne K (.ref C) cv = some b ∧ Q (.bl b) H
theorem call_isX {a C dd : Addr} {oe : Obj} {pn : List (Addr × Obj)} (T : PySem.W.PuX X.K C) (hz : Zc (.ref C) (some dd) oe) (hf : ∃ vs, oe.data = .fields vs) : CallR (X.suite a ((a, oe) :: pn)) (.builtin "isinstance") (rIsX X.K C a dd) := by
  intro pins s σ H xs us Q I r h
  obtain ⟨c, cv, b, vf, rfl, hcv, hd, e, q⟩ := h
  obtain ⟨u1, u2, rfl, r1, r2⟩ := vals2 r
  cases (show u1 = Value.ref a from r1)
  cases hcv _ r2
  obtain ⟨hg, _⟩ := I.pin (a, oe) (List.mem_append.mpr (.inl List.mem_cons_self))
  obtain ⟨od, J⟩ := inst_x I hg hz hf hd
  exact PySem.W.kia_one (PySem.W.pu_kitx T) I.kIn J e (fun z => nomatch z) fun tk => ⟨.bl b, H, I.kept (t' := tk) fun _ _ z => z, rfl, q⟩
theorem boot_isi : bootBuiltins "isinstance" = some (.builtin "isinstance") := by decide +kernel
noncomputable def de_xi (i : Nat) {a C C2 : Addr} {oe : Obj} {cls : Value} {d : Option Addr} {pn : List (Addr × Obj)} {y x : Str} {p1 p2 p3 : Pos} (T : PySem.W.PuX X.K C) (hz : Zc cls d oe) (hf : ∃ vs, oe.data = .fields vs) (hm : X.mg "isinstance" = none) (hx : X.mg x = some (.ref C2))
    (hN : X.N[i]? = some y := by rfl) (hv : Vis X.env.scope y := by first | exact Or.inl rfl | exact Or.inr (Or.inl rfl) | exact Or.inr (Or.inr rfl)) (hd : (y == ("__debug__" : Str)) = false := by decide) (hcd : (y == ("__classdict__" : Str)) = false := by decide) (hg : Gl X "isinstance" := by rfl) (hgx : Gl X x := by rfl)
    (hdx : (x == ("__debug__" : Str)) = false := by decide) (h1 : starEach [.Name y p1, .Name x p2] X.env = (false, eval (.Name y p1) X.env) :: starEach [.Name x p2] X.env := by rfl) (h2 : starEach [.Name x p2] X.env = (false, eval (.Name x p2) X.env) :: starEach [] X.env := by rfl)
    (hpl : (backTo pos (starEach [.Name x p2] X.env)).any (·.1) = false := by rfl) : DE (X.suite a ((a, oe) :: pn)) W (.Call (.Name "isinstance" p3) [.Name y p1, .Name x p2] [] pos) (rXi X.K i a cls d C C2) where
  te := fun σ H Q => (tCons (tVar i) (tCons (tC (.ref C2)) tNil)) σ H fun vs H1 => ∃ dd, d = some dd ∧ cls = .ref C ∧ rIsX X.K C a dd vs H1 Q
  p := by
    refine ⟨fun pins s σ H Q I h => ?_⟩
    refine wpAny_Call_Name_kw (ld_blt (X := X.suite a ((a, oe) :: pn)) I hg hm boot_isi ?_ (by decide) (by decide))
    refine PyProof.Rows.callWith_builtin1 (thn ((pa_cons (pe_var (X := X.suite a ((a, oe) :: pn)) hN hv hd hcd) (pa_cons (pe_glob (v := .ref C2) hgx hx rfl hdx) pa_nil h2) h1).run pos pins s σ H _ I h) fun us s1 ⟨vs, H1, I1, r1, dd, e1, e2, q1⟩ => ?_) h1 hpl
    subst e1 e2
    exact call_isX T hz hf pins s1 σ H1 vs us Q I1 r1 q1
  g := fun U env σ H Q q x hE h k hx => by
    obtain ⟨_, ps, hA, _⟩ := hE
    unfold rXi at h
    split at h
    · rename_i a' c' d' fs e
      obtain ⟨⟨rfl, rfl, rfl, hcl, hdn⟩, b, hb, hq⟩ := h
      obtain ⟨h1, h2⟩ := hA.getX e
      rcases h2 with ⟨z, _⟩ | ⟨dd, vf, rfl, h4, h5⟩
      · exact absurd z hdn
      · exact ⟨_, h1, dd, rfl, hcl, .ref C2, _, b, vf, rfl, fun u r => r, off_in _ _ h4, hb, k _ H (.fz (.bl b)) (Same.refl H) (.bl b) hq⟩
    · exact h.elim
/-- isinstance(e, (C2, C3)) -/
@[simp] def rXi2 (K : PySem.W.Frag) (i : Nat) (a : Addr) (c : Value) (d : Option Addr) (C C2 C3 : Addr) : RE := fun env q _ => match env[i]? with
  | some (some (.exn a' c' d' fs)) => (a' = a ∧ c' = c ∧ d' = d ∧ c = .ref C ∧ d ≠ none) ∧ ∃ k, PySem.W.kitAny K (.ref C) [.ref C2, .ref C3] = some k ∧ q (.fz (.bl k))
  | _ => False
def rIsXT (K : PySem.W.Frag) (C : Addr) (a dd : Addr) : List V → Hp → VK → Prop := fun xs H Q => ∃ (tp : Addr) (cs : List V) (us : List Value) (b : Bool) (vf : List (Str × V)), xs = [.ref a, .ref tp] ∧ H tp = some (.tup cs) ∧ Paired ClsV cs us ∧ H dd = some (.xd vf) ∧ PySem.W.kitAny K (.ref C) us = some b ∧ Q (.bl b) H
theorem call_isXT {a C dd : Addr} {oe : Obj} {pn : List (Addr × Obj)} (T : PySem.W.PuX X.K C) (hz : Zc (.ref C) (some dd) oe) (hf : ∃ vs, oe.data = .fields vs) : CallR (X.suite a ((a, oe) :: pn)) (.builtin "isinstance") (rIsXT X.K C a dd) := by
  intro pins s σ H xs us Q I r h
  obtain ⟨tp, cs, ws, b, vf, rfl, hT, kc, hd, e, q⟩ := h
  obtain ⟨u1, u2, rfl, r1, r2⟩ := vals2 r
  cases (show u1 = Value.ref a from r1)
  cases (show u2 = Value.ref tp from r2)
  obtain ⟨hg, _⟩ := I.pin (a, oe) (List.mem_append.mpr (.inl List.mem_cons_self))
  obtain ⟨od, J⟩ := inst_x I hg hz hf hd
  obtain ⟨_, its, rv, ot, g1, g2, n, g3⟩ := (show ObjOk X.prog X.w H s.heap tp (.tup cs) from I.hok tp _ hT)
  obtain rfl := ClsV.all kc rv
  obtain ⟨oc, od', dt, sl⟩ := ot
  dsimp only at g2 g3
  subst g2 g3
  exact PySem.W.kia_tup (PySem.W.pu_kitx T) I.kIn J g1 e (fun z => nomatch z) fun tk => ⟨.bl b, H, I.kept (t' := tk) fun _ _ z => z, rfl, q⟩
noncomputable def de_xi2 (i : Nat) {a C C2 C3 : Addr} {oe : Obj} {cls : Value} {d : Option Addr} {pn : List (Addr × Obj)} {y x z : Str} {p1 p2 p3 p4 p5 : Pos} {kt} (T : PySem.W.PuX X.K C) (hz : Zc cls d oe) (hf : ∃ vs, oe.data = .fields vs) (hm : X.mg "isinstance" = none) (hx : X.mg x = some (.ref C2)) (hx3 : X.mg z = some (.ref C3))
    (hN : X.N[i]? = some y := by rfl) (hv : Vis X.env.scope y := by first | exact Or.inl rfl | exact Or.inr (Or.inl rfl) | exact Or.inr (Or.inr rfl)) (hd : (y == ("__debug__" : Str)) = false := by decide) (hcd : (y == ("__classdict__" : Str)) = false := by decide) (hg : Gl X "isinstance" := by rfl) (hgx : Gl X x := by rfl) (hgz : Gl X z := by rfl)
    (hdx : (x == ("__debug__" : Str)) = false := by decide) (hdz : (z == ("__debug__" : Str)) = false := by decide) (h1 : starEach [.Name y p1, .Tuple [.Name x p2, .Name z p4] kt p5] X.env = (false, eval (.Name y p1) X.env) :: starEach [.Tuple [.Name x p2, .Name z p4] kt p5] X.env := by rfl)
    (h2 : starEach [.Tuple [.Name x p2, .Name z p4] kt p5] X.env = (false, eval (.Tuple [.Name x p2, .Name z p4] kt p5) X.env) :: starEach [] X.env := by rfl) (h3 : starEach [.Name x p2, .Name z p4] X.env = (false, eval (.Name x p2) X.env) :: starEach [.Name z p4] X.env := by rfl)
    (h4 : starEach [.Name z p4] X.env = (false, eval (.Name z p4) X.env) :: starEach [] X.env := by rfl) (hpl : (backTo pos (starEach [.Tuple [.Name x p2, .Name z p4] kt p5] X.env)).any (·.1) = false := by rfl) :
    DE (X.suite a ((a, oe) :: pn)) W (.Call (.Name "isinstance" p3) [.Name y p1, .Tuple [.Name x p2, .Name z p4] kt p5] [] pos) (rXi2 X.K i a cls d C C2 C3) where
  te := fun σ H Q => (tCons (tVar i) (tCons (tTup (tCons (tC (.ref C2)) (tCons (tC (.ref C3)) tNil))) tNil)) σ H fun vs H1 => ∃ dd, d = some dd ∧ cls = .ref C ∧ rIsXT X.K C a dd vs H1 Q
  p := by
    refine ⟨fun pins s σ H Q I h => ?_⟩
    refine wpAny_Call_Name_kw (ld_blt (X := X.suite a ((a, oe) :: pn)) I hg hm boot_isi ?_ (by decide) (by decide))
    refine PyProof.Rows.callWith_builtin1 (thn ((pa_cons (pe_var (X := X.suite a ((a, oe) :: pn)) hN hv hd hcd) (pa_cons (pe_tup (pa_cons (pe_glob (v := .ref C2) hgx hx rfl hdx) (pa_cons (pe_glob (v := .ref C3) hgz hx3 rfl hdz) pa_nil h4) h3)) pa_nil h2) h1).run pos pins s σ H _ I h) fun us s1 ⟨vs, H1, I1, r1, dd, e1, e2, q1⟩ => ?_) h1 hpl
    subst e1 e2
    exact call_isXT T hz hf pins s1 σ H1 vs us Q I1 r1 q1
  g := fun U env σ H Q q x hE h k hx => by
    obtain ⟨_, ps, hA, _⟩ := hE
    unfold rXi2 at h
    split at h
    · rename_i a' c' d' fs e
      obtain ⟨⟨rfl, rfl, rfl, hcl, hdn⟩, b, hb, hq⟩ := h
      obtain ⟨h1, h2⟩ := hA.getX e
      rcases h2 with ⟨z, _⟩ | ⟨dd, vf, rfl, h4, h5⟩
      · exact absurd z hdn
      · refine ⟨_, h1, (by show 2 ≤ sizeLine; decide), fun tp ntp => ?_⟩
        have sm : Same H (upd H tp (.tup [.ref C2, .ref C3])) := same_upd ntp
        exact ⟨dd, rfl, hcl, tp, _, _, b, vf, rfl, upd_same, .cons (.own C2) (.cons (.own C3) .nil), sm _ _ (off_in _ _ h4), hb, k _ _ (.fz (.bl b)) sm (.bl b) hq⟩
    · exact h.elim

/-! ### try -/
structure DH (X : Cx) (hds : List ExceptHandler) (hf : PEnds → PXe → PXe) where
  wr : Ends → WX → WX
  p : HdG X hds wr
  g : ∀ (B : Addr → Prop) (H0 : Hp) (M : List Addr) (G0 : Hp) (W : WX) (Dn : Ends) (P : PEnds) (x : PXe), (∀ a, B a → (H0 a).isSome = true) → Kn X.K B H0 M G0 W Dn P x → ∀ c fs d σ H env U ps, hf P x c fs env → Xr X.K (off H U) d fs → SnU X.K B H0 M G0 U ps H σ env → wr Dn W c d σ H
@[simp] def hNil : PEnds → PXe → PXe := fun _ x => x
noncomputable def dh_nil : DH X [] hNil := ⟨_, .nil, fun B H0 M G0 W Dn P x hB k c fs d σ H env U ps h hv hs => k.ex c fs d σ H env U ps h hv hs⟩
@[simp] def hPlain (K : PySem.W.Frag) (cv : Value) (t : Addr → Value → Option Addr → RS) (r : PEnds → PXe → PXe) : PEnds → PXe → PXe := fun P x c fs env => ∃ k, PySem.W.exmOne K c cv = some k ∧ (k = true → ∀ a d, t a c d P (fun _ _ _ => False) env) ∧ (k = false → r P x c fs env)
@[simp] def hNamed (K : PySem.W.Frag) (i : Nat) (cv : Value) (t : Addr → Value → Option Addr → RS) (r : PEnds → PXe → PXe) : PEnds → PXe → PXe := fun P x c fs env => ∃ k, PySem.W.exmOne K c cv = some k ∧
  (k = true → ∀ a d, (fs ≠ [] → d ≠ none) → t a c d { nx := fun env => P.nx (env.set i none), rt := P.rt, bk := fun env => P.bk (env.set i none), ct := fun env => P.ct (env.set i none) } (fun _ _ _ => False) (env.set i (some (.exn a c d fs)))) ∧ (k = false → r P x c fs env)
/-- an object that stands for a caught error -/
def oe0 (cls : Value) (d : Option Addr) : Obj := { cls := cls, dict := d, data := .fields #[] }
theorem oe0_z (cls : Value) (d : Option Addr) : Zc cls d (oe0 cls d) := ⟨rfl, rfl⟩
theorem oe0_f (cls : Value) (d : Option Addr) : ∃ vs, (oe0 cls d).data = .fields vs := ⟨_, rfl⟩
noncomputable def dh_plain {x : Str} {cv : Value} {st0 : Stmt} {np hp : Pos} {hds : List ExceptHandler} {r : PEnds → PXe → PXe} {tt : Addr → Value → Option Addr → RS} (hc : Names X x cv)
    (hs : ∀ (a : Addr) (oe : Obj) (cls : Value) (d : Option Addr) (pn : List (Addr × Obj)), Zc cls d oe → (∃ vs, oe.data = .fields vs) → DSs (X.suite a ((a, oe) :: pn)) WF (st0 :: sts) (tt a cls d)) (hr : DH X hds r)
    (hu : ∀ a oe cls d pn hz hf, (hs a oe cls d pn hz hf).ts = (hs a (oe0 cls d) cls d [] (oe0_z cls d) (oe0_f cls d)).ts := by intros; rfl) : DH X (.ExceptHandler (some (.Name x np)) none (st0 :: sts) hp :: hds) (hPlain X.K cv tt r) where
  wr := _
  p := .plain (ts := fun a cls d => (hs a (oe0 cls d) cls d [] (oe0_z cls d) (oe0_f cls d)).ts) hc (fun a oe cls d pn hz hf => hu a oe cls d pn hz hf ▸ (hs a oe cls d pn hz hf).p) hr.p
  g := fun B H0 M G0 W Dn P x hB kk c fs d σ H env U ps h hv hsn => by
    obtain ⟨k, h1, h2, h3⟩ := h
    refine ⟨k, h1, fun e a na => ?_, fun e => hr.g B H0 M G0 W Dn P x hB kk c fs d σ H env U ps (h3 e) hv hsn⟩
    exact (hs a (oe0 c d) c d [] (oe0_z c d) (oe0_f c d)).g B H0 M G0 σ H env Dn P _ hB hsn.sn (h2 e a d) ⟨kk.nx, kk.bk, kk.ct, kk.rt, fun _ _ _ _ _ _ _ _ z => z.elim⟩
theorem Sn.forget {K : PySem.W.Frag} {B : Addr → Prop} {H0 G0 H : Hp} {M : List Addr} {σ : L2.St} {env : Env} {i : Nat} (h : Sn K B H0 M G0 H σ env) (x : Option V) : Sn K B H0 M G0 H (σ.set i x) (env.set i none) := by
  obtain ⟨U, ps, h⟩ := h
  obtain ⟨qs, a, b⟩ := h.at_.none (i := i) x
  exact (h.slots a b).sn
noncomputable def dh_named (i : Nat) {x n : Str} {cv : Value} {st0 : Stmt} {np hp : Pos} {hds : List ExceptHandler} {r : PEnds → PXe → PXe} {tt : Addr → Value → Option Addr → RS} (hc : Names X x cv)
    (hs : ∀ (a : Addr) (oe : Obj) (cls : Value) (d : Option Addr) (pn : List (Addr × Obj)), Zc cls d oe → (∃ vs, oe.data = .fields vs) → DSs (X.suite a ((a, oe) :: pn)) WF (st0 :: sts) (tt a cls d)) (hr : DH X hds r) (hi : X.N[i]? = some n := by rfl) (hln : X.env.kindOf n = some .local := by rfl)
    (hu : ∀ a oe cls d pn hz hf, (hs a oe cls d pn hz hf).ts = (hs a (oe0 cls d) cls d [] (oe0_z cls d) (oe0_f cls d)).ts := by intros; rfl) : DH X (.ExceptHandler (some (.Name x np)) (some n) (st0 :: sts) hp :: hds) (hNamed X.K i cv tt r) where
  wr := _
  p := .named (ts := fun a cls d => (hs a (oe0 cls d) cls d [] (oe0_z cls d) (oe0_f cls d)).ts) hi hln hc (fun a oe cls d pn hz hf => hu a oe cls d pn hz hf ▸ (hs a oe cls d pn hz hf).p) hr.p
  g := fun B H0 M G0 W Dn P x hB kk c fs d σ H env U ps h hv hsn => by
    obtain ⟨k, h1, h2, h3⟩ := h
    refine ⟨k, h1, fun e a na => ?_, fun e => hr.g B H0 M G0 W Dn P x hB kk c fs d σ H env U ps (h3 e) hv hsn⟩
    have hd : fs ≠ [] → d ≠ none := fun z => by
      rcases hv with ⟨_, q⟩ | ⟨_, _, rfl, _⟩
      · exact absurd q z
      · intro q; cases q
    obtain ⟨qs, q1, q2⟩ := hsn.at_.setX (i := i) (a := a) (c := c) hv
    exact (hs a (oe0 c d) c d [] (oe0_z c d) (oe0_f c d)).g B H0 M G0 _ H _ _ _ _ hB (hsn.slots q1 q2).sn (h2 e a d hd) ⟨fun σ' H' env' q s => kk.nx _ _ _ q (s.forget none), fun σ' H' env' q s => kk.bk _ _ _ q (s.forget none), fun σ' H' env' q s => kk.ct _ _ _ q (s.forget none), kk.rt, fun _ _ _ _ _ _ _ _ z => z.elim⟩
@[simp] def wTry (t : RS) (hf : PEnds → PXe → PXe) : RS := fun P x env => t P (hf P x) env
/-- a body's contexts -/
structure Ix (X : Cx) (V : WX) where
  pn : List (Addr × Obj)
  xe : Value → Shared → Prop
  tk : Takes (X.tr pn xe) V
  pp : PassesOwn (model X.prog X.w) X.A X.env xe
open Classical in
noncomputable def ds_try {body : List Stmt} {h0 : ExceptHandler} {hds : List ExceptHandler} {hf : PEnds → PXe → PXe} (hs : X.stack = X.env :: X.outer) (hfr : X.env.frame = some X.env.locals) (hN : X.N.Nodup) (tk : Takes X W)
    (hb : ∀ (V : WX) (pn : List (Addr × Obj)) (xe : Value → Shared → Prop), Takes (X.tr pn xe) V → PassesOwn (model X.prog X.w) X.A X.env xe → DSs (X.tr pn xe) V body t) (hh : DH X (h0 :: hds) hf)
    (hu : ∀ V pn xe tk pp pn' xe' tk' pp', (hb V pn xe tk pp).ts = (hb V pn' xe' tk' pp').ts := by intros; rfl) : DS X W (.Try body (h0 :: hds) [] [] pos) (wTry t hf) where
  ts := fun Dn σ H => (fun V => if h : Nonempty (Ix X V) then (hb V (Classical.choice h).pn (Classical.choice h).xe (Classical.choice h).tk (Classical.choice h).pp).ts else fun _ _ _ => True) (hh.wr Dn W) Dn σ H
  p := ps_try_g (tb := fun V => if h : Nonempty (Ix X V) then (hb V (Classical.choice h).pn (Classical.choice h).xe (Classical.choice h).tk (Classical.choice h).pp).ts else fun _ _ _ => True) hs hfr hN tk (fun V pn xe tk1 pp1 => by
    have ne : Nonempty (Ix X V) := ⟨⟨pn, xe, tk1, pp1⟩⟩
    rw [dif_pos ne, hu V _ _ _ _ pn xe tk1 pp1]
    exact (hb V pn xe tk1 pp1).p) hh.p
  g := fun B H0 M G0 σ H env Dn P x hB h ht kk => by
    dsimp only
    by_cases ne : Nonempty (Ix X (hh.wr Dn W))
    · rw [dif_pos ne]
      exact (hb _ _ _ _ _).g B H0 M G0 σ H env Dn P (hf P x) hB h ht ⟨kk.nx, kk.bk, kk.ct, kk.rt, fun c fs d σ' H' env' U ps q hv s => hh.g B H0 M G0 W Dn P x hB kk c fs d σ' H' env' U ps q hv s⟩
    · rw [dif_neg ne]
      trivial
end
end Pu
set_option Elab.async false
set_option linter.all false
set_option maxRecDepth 100000
set_option maxHeartbeats 2000000
/-! Pu9: constants of the module, its dicts; a def's facts together -/
namespace Pu
open PySem PySem.Spec PyProof.Rows L2
/-- a constant of the module that stands for a datum -/
structure GV (K : PySem.W.Frag) (mg : Str → Option Value) (x : Str) (d : D) where
  v : V
  u : Value
  m : mg x = some u
  r : RelV v u
  rp : ∀ G, Rp K G v d
def GV.str {K : PySem.W.Frag} {mg : Str → Option Value} {x z : Str} {t : Tok} (m : mg x = some (.str z t)) : GV K mg x (.str z) := ⟨.str z, _, m, ⟨t, rfl⟩, fun _ => .str z⟩
def GV.int {K : PySem.W.Frag} {mg : Str → Option Value} {x : Str} {z : Int} {t : Tok} (m : mg x = some (.int z t)) : GV K mg x (.int z) := ⟨.int z, _, m, ⟨t, rfl⟩, fun _ => .int z⟩
def GV.tup {K : PySem.W.Frag} {mg : Str → Option Value} {x : Str} {a : Addr} {dd : Option Addr} {its : Array Value} {n : Nat} {sl : Array (Option Value)} {vs : List V} {ds : List D} (m : mg x = some (.ref a)) (l : K.lookup a = some ⟨.type "tuple", dd, .seq its n, sl⟩) (hv : Vals vs its.toList) (hd : ∀ G, Rps K G vs ds) (hs : its.size ≤ 1000 := by decide) :
    GV K mg x (.tup ds) := ⟨.ref a, _, m, rfl, fun G => .tup (.inr ⟨_, its, n, l, rfl, rfl, small_size (by omega), hv⟩) (hd G)⟩
/-- a dict of the module with texts as keys -/
structure GD (K : PySem.W.Frag) (w : World) (mg : Str → Option Value) (x : Str) (kv : List (Str × D)) where
  d : Addr
  es : Array DictEntry
  n : Nat
  m : mg x = some (.ref d)
  kd : KDict K w d es n
  ents : Paired (fun (e : DictEntry) (p : Str × D) => (∃ t, e.key = .str p.1 t) ∧ ∃ v, RelV v e.val ∧ ∀ G, Rp K G v p.2) es.toList kv
theorem GD.look {K : PySem.W.Frag} {w : World} {mg : Str → Option Value} {x : Str} {kv : List (Str × D)} (g : GD K w mg x kv) (z : Str) : ∃ r, PySem.W.nsIn K g.d z = some r ∧ r.isSome = (kv.lookup z).isSome ∧ ∀ y, kv.lookup z = some y → ∃ u v, r = some u ∧ RelV v u ∧ ∀ G, Rp K G v y := by
  unfold PySem.W.nsIn
  rw [g.kd.at_]
  dsimp only
  have key : ∀ {es : List DictEntry} {kv : List (Str × D)}, Paired (fun (e : DictEntry) (p : Str × D) => (∃ t, e.key = .str p.1 t) ∧ ∃ v, RelV v e.val ∧ ∀ G, Rp K G v p.2) es kv →
      es.any (·.refKey) = false ∧ (∀ e, es.find? (·.key.isStr z) = some e → ∃ y, kv.lookup z = some y ∧ ∃ v, RelV v e.val ∧ ∀ G, Rp K G v y) ∧ (es.find? (·.key.isStr z) = none → kv.lookup z = none) := by
    intro es kv h
    induction h with
    | nil => exact ⟨rfl, fun e h => by simp at h, fun _ => rfl⟩
    | @cons e p es kv hh hr ih =>
      obtain ⟨⟨t, ht⟩, v, rv, rp⟩ := hh
      obtain ⟨i1, i2, i3⟩ := ih
      have er : e.refKey = false := by
        unfold DictEntry.refKey
        rw [ht]
      have ek : e.key.isStr z = (p.1 == z) := by rw [ht]; rfl
      refine ⟨by rw [List.any_cons, er, i1]; rfl, fun e' h => ?_, fun h => ?_⟩
      · rw [List.find?_cons, ek] at h
        rw [List.lookup_cons]
        have sy : (z == p.1) = (p.1 == z) := by rw [Bool.eq_iff_iff, beq_iff_eq, beq_iff_eq]; exact ⟨Eq.symm, Eq.symm⟩
        rw [sy]
        cases hc : (p.1 == z) with
        | true =>
          rw [hc] at h
          cases h
          exact ⟨p.2, rfl, v, rv, rp⟩
        | false =>
          rw [hc] at h
          exact i2 e' h
      · rw [List.find?_cons, ek] at h
        rw [List.lookup_cons]
        have sy : (z == p.1) = (p.1 == z) := by rw [Bool.eq_iff_iff, beq_iff_eq, beq_iff_eq]; exact ⟨Eq.symm, Eq.symm⟩
        rw [sy]
        cases hc : (p.1 == z) with
        | true =>
          rw [hc] at h
          cases h
        | false =>
          rw [hc] at h
          exact i3 h
  obtain ⟨k1, k2, k3⟩ := key g.ents
  cases hf : g.es.toList.find? (·.key.isStr z) with
  | some e =>
    obtain ⟨y, hy, v, rv, rp⟩ := k2 e hf
    refine ⟨some e.val, rfl, by rw [hy]; rfl, fun y' hy' => ?_⟩
    rw [hy] at hy'
    cases hy'
    exact ⟨e.val, v, rfl, rv, rp⟩
  | none =>
    have hn := k3 hf
    rw [k1]
    refine ⟨none, rfl, by rw [hn]; rfl, fun y' hy' => ?_⟩
    rw [hn] at hy'
    cases hy'
section
variable {X : Cx} {W : WX} {e a b c : Expr} {es : List Expr} {ta tb te : RE} {ra : RA} {pos : Pos}
noncomputable def de_gv {x : Str} {d : D} (g : GV X.K X.mg x d) (hg : Gl X x := by rfl) (hd : (x == ("__debug__" : Str)) = false := by decide) : DE X W (.Name x pos) (rC d) := de_glob hg g.m g.r g.rp hd
@[simp] def fInD (kv : List (Str × D)) (neg : Bool) (d : D) (q : S → Prop) : Prop := match d with
  | .str z => q (.fz (.bl (if neg then !(kv.lookup z).isSome else (kv.lookup z).isSome)))
  | _ => False
noncomputable def dt_inD {x : Str} {p1 : Pos} {kv : List (Str × D)} (g : GD X.K X.w X.mg x kv) (ha : DE X W a ta) (hg : Gl X x := by rfl) (hd : (x == ("__debug__" : Str)) = false := by decide) (hm : behindInMarks .In (.Name x p1) = false := by rfl) : DT X W (.Compare a [.In] [.Name x p1] pos) (rT (Pu.r1 (fInD kv false) ta)) where
  tt := _
  p := pt_cmpR (op_in_kd g.kd) ha.p (pe_glob (v := .ref g.d) hg g.m rfl hd) hm
  g := fun U env σ H Q q x hE h k hx => by
    refine ge_d ha.g (q := fun d => fInD kv false d fun s => match s with | .fz (.bl k) => q k | _ => False) hE h (fun v H1 d e1 r1 hq => ?_) hx
    cases d <;> first | exact hq.elim | skip
    cases r1
    obtain ⟨r, h1, h2, _⟩ := g.look _
    refine ⟨_, r, rfl, rfl, h1, _, rfl, k _ H1 e1 ?_⟩
    rw [h2]
    exact hq
noncomputable def dt_notinD {x : Str} {p1 : Pos} {kv : List (Str × D)} (g : GD X.K X.w X.mg x kv) (ha : DE X W a ta) (hg : Gl X x := by rfl) (hd : (x == ("__debug__" : Str)) = false := by decide) (hm : behindInMarks .NotIn (.Name x p1) = false := by rfl) : DT X W (.Compare a [.NotIn] [.Name x p1] pos) (rT (Pu.r1 (fInD kv true) ta)) where
  tt := _
  p := pt_cmpR (op_notIn_kd g.kd) ha.p (pe_glob (v := .ref g.d) hg g.m rfl hd) hm
  g := fun U env σ H Q q x hE h k hx => by
    refine ge_d ha.g (q := fun d => fInD kv true d fun s => match s with | .fz (.bl k) => q k | _ => False) hE h (fun v H1 d e1 r1 hq => ?_) hx
    cases d <;> first | exact hq.elim | skip
    cases r1
    obtain ⟨r, h1, h2, _⟩ := g.look _
    refine ⟨_, r, rfl, rfl, h1, _, rfl, k _ H1 e1 ?_⟩
    rw [h2]
    exact hq
@[simp] def fIxD (kv : List (Str × D)) (d : D) (q : S → Prop) : Prop := match d with
  | .str z => ∃ y, kv.lookup z = some y ∧ q (.fz y)
  | _ => False
noncomputable def de_ixD {x : Str} {p1 : Pos} {kv : List (Str × D)} (g : GD X.K X.w X.mg x kv) (hb : DE X W b tb) (hg : Gl X x := by rfl) (hd : (x == ("__debug__" : Str)) = false := by decide) (hs : PlainIx b := by exact fun _ _ => rfl) : DE X W (.Subscript (.Name x p1) b pos) (Pu.r1 (fIxD kv) tb) where
  te := _
  p := pe_ix ix_kdict (pe_glob (v := .ref g.d) hg g.m rfl hd) hb.p hs
  g := fun U env σ H Q q x hE h k hx => by
    refine ge_d hb.g (q := fun d => fIxD kv d q) hE h (fun v H1 d e1 r1 hq => ?_) hx
    cases d <;> first | exact hq.elim | skip
    cases r1
    obtain ⟨y, hy, hq⟩ := hq
    obtain ⟨r, h1, _, h3⟩ := g.look _
    obtain ⟨u, v, rfl, rv, rp⟩ := h3 y hy
    exact ⟨g.d, _, v, rfl, rfl, ⟨_, _, u, g.kd.at_, g.kd.lit, h1, rv⟩, k v H1 (.fz y) e1 (rp _) hq⟩
end
end Pu
set_option Elab.async false
set_option linter.all false
set_option maxRecDepth 100000
set_option maxHeartbeats 2000000
/-! Pu10: how readings are reckoned -/
namespace Pu
open PySem PySem.Spec PyProof.Rows L2
theorem atI_eq {α : Type} (xs : List α) (n : Nat) : L2.atI xs ((n : Nat) : Int) = xs[n]? := by
  cases h : xs[n]? with
  | some v => exact atI_nat h
  | none =>
    unfold L2.atI ixN
    have := List.getElem?_eq_none_iff.mp h
    rw [if_pos (by omega), if_neg (by omega)]
    rfl
@[simp] theorem atI_cast {α : Type} (xs : List α) (n : Nat) : L2.atI xs ((n : Nat) : Int) = xs[n]? := atI_eq xs n
@[simp] theorem atI_0 {α : Type} (xs : List α) : L2.atI xs (0 : Int) = xs[0]? := atI_eq xs 0
@[simp] theorem atI_1 {α : Type} (xs : List α) : L2.atI xs (1 : Int) = xs[1]? := atI_eq xs 1
@[simp] theorem atI_2 {α : Type} (xs : List α) : L2.atI xs (2 : Int) = xs[2]? := atI_eq xs 2
@[simp] theorem atI_3 {α : Type} (xs : List α) : L2.atI xs (3 : Int) = xs[3]? := atI_eq xs 3
@[simp] theorem atI_4 {α : Type} (xs : List α) : L2.atI xs (4 : Int) = xs[4]? := atI_eq xs 4
@[simp] theorem atI_5 {α : Type} (xs : List α) : L2.atI xs (5 : Int) = xs[5]? := atI_eq xs 5
@[simp] theorem atI_6 {α : Type} (xs : List α) : L2.atI xs (6 : Int) = xs[6]? := atI_eq xs 6
@[simp] theorem atI_7 {α : Type} (xs : List α) : L2.atI xs (7 : Int) = xs[7]? := atI_eq xs 7
@[simp] theorem atI_8 {α : Type} (xs : List α) : L2.atI xs (8 : Int) = xs[8]? := atI_eq xs 8
@[simp] theorem atI_9 {α : Type} (xs : List α) : L2.atI xs (9 : Int) = xs[9]? := atI_eq xs 9
@[simp] theorem atI_10 {α : Type} (xs : List α) : L2.atI xs (10 : Int) = xs[10]? := atI_eq xs 10
@[simp] theorem atI_11 {α : Type} (xs : List α) : L2.atI xs (11 : Int) = xs[11]? := atI_eq xs 11
@[simp] theorem atI_12 {α : Type} (xs : List α) : L2.atI xs (12 : Int) = xs[12]? := atI_eq xs 12
@[simp] theorem atI_last1 {α : Type} (xs : List α) : L2.atI xs (-1) = xs.getLast? := by
  unfold L2.atI ixN
  rw [if_neg (by omega)]
  cases xs with
  | nil => rfl
  | cons x r =>
    rw [if_pos (by simp only [List.length_cons]; omega)]
    have : ((-1 : Int) + ((x :: r).length : Int)).toNat = (x :: r).length - 1 := by simp only [List.length_cons]; omega
    show (x :: r)[((-1 : Int) + ((x :: r).length : Int)).toNat]? = _
    rw [this, List.getLast?_eq_getElem?]
theorem any_strs (w : Str) : ∀ ws : List Str, (ws.map D.str).any (fun d => eqF d (.str w)) = decide (w ∈ ws)
  | [] => by simp
  | v :: ws => by
    rw [List.map_cons, List.any_cons, any_strs w ws]
    show ((v == w) || decide (w ∈ ws)) = _
    rw [Bool.eq_iff_iff]
    simp
    constructor
    · rintro (h | h)
      · exact .inl h.symm
      · exact .inr h
    · rintro (h | h)
      · exact .inl h.symm
      · exact .inr h
theorem any_ints (w : Int) : ∀ ws : List Int, (ws.map D.int).any (fun d => eqF d (.int w)) = decide (w ∈ ws)
  | [] => by simp
  | v :: ws => by
    rw [List.map_cons, List.any_cons, any_ints w ws]
    show ((v == w) || decide (w ∈ ws)) = _
    rw [Bool.eq_iff_iff]
    simp
    constructor
    · rintro (h | h)
      · exact .inl h.symm
      · exact .inr h
    · rintro (h | h)
      · exact .inl h.symm
      · exact .inr h
@[simp] theorem flat_strs (ws : List Str) : (ws.map D.str).all D.flat = true := by
  rw [List.all_eq_true]
  intro d hd
  obtain ⟨w, _, rfl⟩ := List.mem_map.mp hd
  rfl
@[simp] theorem flat_ints (ws : List Int) : (ws.map D.int).all D.flat = true := by
  rw [List.all_eq_true]
  intro d hd
  obtain ⟨w, _, rfl⟩ := List.mem_map.mp hd
  rfl
@[simp] theorem in_tup (w : Str) (ws : List Str) (q : S → Prop) : fInB false (.str w) (.tup (ws.map D.str)) q ↔ q (.fz (.bl (decide (w ∈ ws)))) := by
  simp only [fInB, D.flat, flat_strs, any_strs]; simp
@[simp] theorem notin_tup (w : Str) (ws : List Str) (q : S → Prop) : fInB true (.str w) (.tup (ws.map D.str)) q ↔ q (.fz (.bl (!decide (w ∈ ws)))) := by
  simp only [fInB, D.flat, flat_strs, any_strs]; simp
@[simp] theorem in_lst (w : Str) (ws : List Str) (q : S → Prop) : fInB false (.str w) (.lst (ws.map D.str)) q ↔ q (.fz (.bl (decide (w ∈ ws)))) := by
  simp only [fInB, D.flat, flat_strs, any_strs]; simp
@[simp] theorem notin_lst (w : Str) (ws : List Str) (q : S → Prop) : fInB true (.str w) (.lst (ws.map D.str)) q ↔ q (.fz (.bl (!decide (w ∈ ws)))) := by
  simp only [fInB, D.flat, flat_strs, any_strs]; simp
@[simp] theorem in_lstI (w : Int) (ws : List Int) (q : S → Prop) : fInB false (.int w) (.lst (ws.map D.int)) q ↔ q (.fz (.bl (decide (w ∈ ws)))) := by
  simp only [fInB, D.flat, flat_ints, any_ints]; simp
@[simp] theorem notin_lstI (w : Int) (ws : List Int) (q : S → Prop) : fInB true (.int w) (.lst (ws.map D.int)) q ↔ q (.fz (.bl (!decide (w ∈ ws)))) := by
  simp only [fInB, D.flat, flat_ints, any_ints]; simp
@[simp] theorem in_sign (c : Nat) (z : Str) (q : S → Prop) : fInB false (.str ⟨#[c]⟩) (.str z) q ↔ q (.fz (.bl (decide (c ∈ z.cps.toList)))) := by
  simp only [fInB]
  constructor
  · rintro ⟨c', e, h⟩
    cases e
    exact h
  · exact fun h => ⟨c, rfl, h⟩
@[simp] theorem notin_sign (c : Nat) (z : Str) (q : S → Prop) : fInB true (.str ⟨#[c]⟩) (.str z) q ↔ q (.fz (.bl (!decide (c ∈ z.cps.toList)))) := by
  simp only [fInB]
  constructor
  · rintro ⟨c', e, h⟩
    cases e
    exact h
  · exact fun h => ⟨c, rfl, h⟩
@[simp] theorem in_nil (x : D) (q : S → Prop) (h : x.flat = true) : fInB false x (.lst []) q ↔ q (.fz (.bl false)) := by simp [fInB, h]
/-- a text in a written list of texts -/
theorem in_wr (w : Str) (ds : List D) (ws : List Str) (e : ds = ws.map D.str) (q : S → Prop) : fInB false (.str w) (.lst ds) q ↔ q (.fz (.bl (decide (w ∈ ws)))) := by rw [e]; exact in_lst w ws q
/-- a comprehension without a test -/
theorem lc_map {te : RE} {env : Env} {i : Nat} (f : D → D) {q : List D → Prop} : ∀ {ds : List D} (acc : List D), (∀ d ∈ ds, ∀ k : S → Prop, (∀ s, s.d = f d → k s) → te (env.set i (some (.fz d))) k fun _ _ => False) → acc.length + ds.length ≤ 16777216 → q (acc ++ ds.map f) → lcF (rgName i) rYes te env ds acc q
  | [], acc, _, _, hq => by
    rw [List.map_nil, List.append_nil] at hq
    exact hq
  | d :: ds, acc, h, hl, hq => by
    show te (env.set i (some (.fz d))) (fun s => acc.length < 16777216 ∧ lcF (rgName i) rYes te env ds (acc ++ [s.d]) q) fun _ _ => False
    rw [List.length_cons] at hl
    refine h d List.mem_cons_self _ fun s hs => ⟨by omega, ?_⟩
    rw [hs]
    refine lc_map f _ (fun d hd => h d (List.mem_cons_of_mem _ hd)) (by rw [List.length_append, List.length_singleton]; omega) ?_
    rw [List.append_assoc]
    exact hq
/-- .. with a test -/
theorem lc_filter {te : RE} {tt : RT} {env : Env} {i : Nat} (f : D → D) (p : D → Bool) {q : List D → Prop} : ∀ {ds : List D} (acc : List D), (∀ d ∈ ds, ∀ k : Bool → Prop, k (p d) → tt (env.set i (some (.fz d))) k fun _ _ => False) →
    (∀ d ∈ ds, ∀ k : S → Prop, (∀ s, s.d = f d → k s) → te (env.set i (some (.fz d))) k fun _ _ => False) → acc.length + ds.length ≤ 16777216 → q (acc ++ (ds.filter p).map f) → lcF (rgName i) tt te env ds acc q
  | [], acc, _, _, _, hq => by
    rw [List.filter_nil, List.map_nil, List.append_nil] at hq
    exact hq
  | d :: ds, acc, ht, h, hl, hq => by
    rw [List.length_cons] at hl
    show tt (env.set i (some (.fz d))) (fun b => if b = true then te (env.set i (some (.fz d))) (fun s => acc.length < 16777216 ∧ lcF (rgName i) tt te env ds (acc ++ [s.d]) q) (fun _ _ => False) else lcF (rgName i) tt te env ds acc q) fun _ _ => False
    refine ht d List.mem_cons_self _ ?_
    cases hp : p d with
    | true =>
      rw [List.filter_cons, if_pos hp, List.map_cons] at hq
      rw [if_pos rfl]
      refine h d List.mem_cons_self _ fun s hs => ⟨by omega, ?_⟩
      rw [hs]
      refine lc_filter f p _ (fun d hd => ht d (List.mem_cons_of_mem _ hd)) (fun d hd => h d (List.mem_cons_of_mem _ hd)) (by rw [List.length_append, List.length_singleton]; omega) ?_
      rw [List.append_assoc]
      exact hq
    | false =>
      rw [List.filter_cons, if_neg (by rw [hp]; decide)] at hq
      rw [if_neg Bool.false_ne_true]
      exact lc_filter f p acc (fun d hd => ht d (List.mem_cons_of_mem _ hd)) (fun d hd => h d (List.mem_cons_of_mem _ hd)) (by omega) hq
theorem sp_e : (Str.ofString "" : Str) = ⟨#[]⟩ := by decide +kernel
theorem sp_1 : (Str.ofString " " : Str) = ⟨#[32]⟩ := by decide +kernel
theorem sp_2 : (Str.ofString "  " : Str) = ⟨#[32, 32]⟩ := by decide +kernel
@[simp] theorem kit_str_str : kitB "str" "str" = some true := by decide +kernel
@[simp] theorem kit_str_tuple : kitB "str" "tuple" = some false := by decide +kernel
@[simp] theorem kit_str_list : kitB "str" "list" = some false := by decide +kernel
@[simp] theorem kit_tuple_str : kitB "tuple" "str" = some false := by decide +kernel
@[simp] theorem kit_tuple_tuple : kitB "tuple" "tuple" = some true := by decide +kernel
@[simp] theorem kit_tuple_list : kitB "tuple" "list" = some false := by decide +kernel
@[simp] theorem kit_list_str : kitB "list" "str" = some false := by decide +kernel
@[simp] theorem kit_list_tuple : kitB "list" "tuple" = some false := by decide +kernel
@[simp] theorem kit_list_list : kitB "list" "list" = some true := by decide +kernel
@[simp] theorem kit_int_str : kitB "int" "str" = some false := by decide +kernel
@[simp] theorem kit_int_tuple : kitB "int" "tuple" = some false := by decide +kernel
@[simp] theorem kit_int_list : kitB "int" "list" = some false := by decide +kernel
@[simp] theorem kit_NoneType_str : kitB "NoneType" "str" = some false := by decide +kernel
@[simp] theorem kit_NoneType_tuple : kitB "NoneType" "tuple" = some false := by decide +kernel
@[simp] theorem kit_NoneType_list : kitB "NoneType" "list" = some false := by decide +kernel
@[simp] theorem kit_bool_str : kitB "bool" "str" = some false := by decide +kernel
end Pu
set_option Elab.async false
set_option linter.all false
set_option maxRecDepth 100000
set_option maxHeartbeats 2000000
/-! Pu11: slices, numbers -/
namespace Pu
open PySem PySem.Spec PyProof.Rows L2
@[simp] theorem cut_to {α : Type} (xs : List α) (k : Nat) : cut xs none (some ((k : Nat) : Int)) = xs.take k := by
  unfold cut
  rw [HT.sIx_none, HT.sIx_nat]
  rw [List.drop_zero, Nat.sub_zero, Nat.min_comm]
  rw [List.take_eq_take_iff]
  omega
@[simp] theorem cut_from {α : Type} (xs : List α) (k : Nat) : cut xs (some ((k : Nat) : Int)) none = xs.drop k := by
  unfold cut
  rw [HT.sIx_none, HT.sIx_nat]
  have : (xs.drop (min k xs.length)).length = xs.length - min k xs.length := List.length_drop
  rw [← this, List.take_length]
  by_cases h : k ≤ xs.length
  · rw [Nat.min_eq_left h]
  · rw [Nat.min_eq_right (by omega), List.drop_eq_nil_of_le (by omega), List.drop_eq_nil_of_le (by omega)]
@[simp] theorem cut_toL {α : Type} (xs : List α) (k : Nat) : cut xs none (some (no_index (OfNat.ofNat k : Int))) = xs.take k := cut_to xs k
@[simp] theorem cut_fromL {α : Type} (xs : List α) (k : Nat) : cut xs (some (no_index (OfNat.ofNat k : Int))) none = xs.drop k := cut_from xs k
@[simp] theorem cut_from1 {α : Type} (xs : List α) (k : Nat) : cut xs (some ((k : Int) + 1)) none = xs.drop (k + 1) := cut_from xs (k + 1)
@[simp] theorem cut_last1 {α : Type} (xs : List α) : cut xs none (some (-1)) = xs.dropLast := by
  unfold cut
  rw [HT.sIx_none, List.drop_zero, Nat.sub_zero]
  have : HT.sIx xs.length xs.length (some (-1)) = xs.length - 1 := by
    show (if (-1 : Int) < 0 then (-1 + (xs.length : Int)).toNat else min (-1 : Int).toNat xs.length) = _
    rw [if_pos (by omega)]
    omega
  rw [this, List.dropLast_eq_take]
theorem cpow (i j : Int) (h0 : 0 ≤ j) (h1 : j ≤ 1000000) (h2 : i.natAbs < 2 ^ 64) : CPow i j := ⟨h0, h1, h2⟩
@[simp] theorem cpow_10_60 : CPow 10 60 := ⟨by omega, by omega, by decide⟩
@[simp] theorem cpow_10_18 : CPow 10 18 := ⟨by omega, by omega, by decide⟩
theorem cdiv {i j : Int} (h0 : 0 < j) (h1 : j < 1073741824) : CDiv i j := ⟨h0, h1⟩
@[simp] theorem cdiv_65537 (i : Int) : CDiv i 65537 := ⟨by omega, by omega⟩
@[simp] theorem cdiv_19 (i : Int) : CDiv i 19 := ⟨by omega, by omega⟩
theorem cmul_l {i j : Int} (h0 : -18446744073709551616 < i) (h1 : i < 18446744073709551616) : CMul i j := .inl ⟨h0, h1⟩
theorem cmul_r {i j : Int} (h0 : -18446744073709551616 < j) (h1 : j < 18446744073709551616) : CMul i j := .inr ⟨h0, h1⟩
theorem rangeD0 (n : Nat) : rangeD 0 (n : Int) = (List.range' 0 n).map fun (i : Nat) => D.int i := by
  unfold rangeD
  rw [List.range_eq_range']
  simp
theorem rangeDn (m n : Nat) : rangeD (m : Int) ((m + n : Nat) : Int) = (List.range' m n).map fun (i : Nat) => D.int i := by
  unfold rangeD
  rw [show ((((m + n : Nat) : Int) - (m : Int)).toNat) = n by omega, List.range'_eq_map_range, List.map_map]
  exact List.map_congr_left fun i _ => by simp
end Pu
set_option Elab.async false
set_option linter.all false
set_option maxRecDepth 100000
set_option maxHeartbeats 2000000
/-! Pu12: text.replace(y, z, 1) -/
namespace Pu
open PySem PySem.Spec PyProof.Rows L2 Builtin Builtin.Str
def rep1 (x y z : Str) : Str := if (occurrences x y 0 x.length 1).isEmpty = true then x else glued z (partsBetween x (occurrences x y 0 x.length 1) y.length)
theorem rep1_len (x y z : Str) : (rep1 x y z).length ≤ x.length + (x.length + 1) * z.length := by
  unfold rep1
  split
  · omega
  · have h1 := StrLaws.occ_length_le x y 0 x.length 1
    have hy : (glued y (partsBetween x (occurrences x y 0 x.length 1) y.length)).length = x.length := by rw [StrLaws.glued_between_self]
    rw [size_glued, length_partsBetween, Nat.add_sub_cancel] at hy
    rw [size_glued, length_partsBetween, Nat.add_sub_cancel]
    have h2 : (occurrences x y 0 x.length 1).length * z.length ≤ (x.length + 1) * z.length := Nat.mul_le_mul_right _ (by omega)
    omega
theorem gives_rep1 (x y z : Str) (t u v c : Tok) (hy : (y.length == 0 && z.length == 0) = false)
    (hf : (u == 0 || v == 0) = false ∧ (u == v) = false ∧ (y == z) = false ∧ tooLong (x.length + (occurrences x y 0 x.length 1).length * z.length) = false) :
    Gives («str.replace» ⟨[.str x t, .str y u, .str z v, .int 1 c], []⟩) (if (occurrences x y 0 x.length 1).isEmpty = true then .val (.str x t) else .str (glued z (partsBetween x (occurrences x y 0 x.length 1) y.length))) := by
  have e : «str.replace» ⟨[.str x t, .str y u, .str z v, .int 1 c], []⟩ = (if ((occurrences x y 0 x.length 1).isEmpty || (y.length == 0 && z.length == 0)) = true then (do rule "str.replace.nothing"; ret (.str x t)) else
          (do let same ← isSame (.str y u) (.str z v)
              if same = true then (do rule "str.replace.old-is-new"; ret (.str x t)) else
              if tooLong (x.length + (occurrences x y 0 x.length 1).length * z.length) = true then unsupported "str.replace:memory" else
              retStr (glued z (partsBetween x (occurrences x y 0 x.length 1) y.length)))) := by
    show (do let limit ← countLimit "str.replace" (some (.int 1 c)) (x.length + 1); _) = _
    rw [countLimit_int "str.replace" 1 c (x.length + 1) (by decide)]
    rfl
  rw [e, hy, Bool.or_false]
  cases hc : (occurrences x y 0 x.length 1).isEmpty
  · obtain ⟨h0, huv, hyz, hl⟩ := hf
    rw [isSame_str_other y z u v h0 huv hyz, hl]
    exact .of_eq rfl
  · exact .rule (.of_eq rfl)
theorem sc_rep1 {prog : Program} {w : World} {A : Around} {E : Value → Shared → Prop} {s : Shared} {x y z : Str} {t u v c : Tok} {Q : Value → Shared → Prop} (hu : u ≠ 0) (hv : v ≠ 0) (huv : u ≠ v) (hy0 : (y.length == 0 && z.length == 0) = false) (hyz : (y == z) = false) (hb : x.length + (x.length + 1) * z.length ≤ 16777216)
    (hq : ∀ t' k, Q (.str (rep1 x y z) t') { s with toks := k }) : wpAny (model prog w) A (call (.builtin "str.replace") [.str x t, .str y u, .str z v, .int 1 c]) Q E s := by
  have hl : tooLong (x.length + (occurrences x y 0 x.length 1).length * z.length) = false := by
    have h1 := StrLaws.occ_length_le x y 0 x.length 1
    have h2 : (occurrences x y 0 x.length 1).length * z.length ≤ (x.length + 1) * z.length := Nat.mul_le_mul_right _ (by omega)
    have e : (2 : Nat) ^ 24 = 16777216 := by decide
    unfold tooLong sizeLine
    exact decide_eq_false (by omega)
  refine call_gives F.slot_str_replace (typeIs_str _ _ _) F.entry_str_replace (F.args_str_replace_4 _ _ _ _)
    (gives_rep1 x y z t u v c hy0 ⟨by simp [hu, hv], by simp [huv], hyz, hl⟩) ?_
  have hlen := rep1_len x y z
  have hq' := hq
  unfold rep1 at hq' hlen
  cases hc : (occurrences x y 0 x.length 1).isEmpty
  · rw [hc] at hq' hlen
    simp only [Bool.false_eq_true, if_false] at hq' hlen ⊢
    exact ⟨small_size (by omega), hq' _ _⟩
  · rw [hc] at hq'
    simp only [if_true] at hq' ⊢
    exact hq' t s.toks
/-! ### one token is out -/
section
variable {X : Cx} {o e f : Expr} {te tf : TE} {to : TE} {y z : Str} {i j k : Nat} {c0 c1 c2 apos pos p p' : Pos}
def tRep1 (to : TE) (y z : Str) : TE := fun σ H Q => to σ H fun v H1 => ∃ x, v = .str x ∧ x.length + (x.length + 1) * z.length ≤ 16777216 ∧ Q (.str (rep1 x y z)) H1
theorem call_m3 {prog : Program} {w : World} {A : Around} {E : Value → Shared → Prop} {s : Shared} {env : PySem.Env} {o e1 e2 e3 : Expr} {m : Str} {ap cp : Pos} {Q : Value → Shared → Prop}
    (h1 : attributeBase o m env (eval o env) = eval o env) (h2 : starEach [e1, e2, e3] env = [(false, eval e1 env), (false, eval e2 env), (false, eval e3 env)]) (h3 : (ap.endLine == cp.line) = true)
    (h : wpAny (model prog w) A (eval o env) (fun ov sh => MethodOnS prog w A E m ov cp [(false, eval e1 env), (false, eval e2 env), (false, eval e3 env)] Q sh) E s) :
    wpAny (model prog w) A (eval (.Call (.Attribute o m ap) [e1, e2, e3] [] cp) env) Q E s :=
  wpAny_Call_method_lateS h1 (by rw [h2]; rfl) h3 (by rw [h2]; exact h)
theorem pet_rep1 (ho : PE X o to) (hyz : (y == z) = false := by decide +kernel) (hy0 : (y.length == 0 && z.length == 0) = false := by decide +kernel)
    (h2 : starEach [.Constant (.str y) j c0, .Constant (.str z) k c1, .Constant (.int 1) i c2] X.env = [(false, eval (.Constant (.str y) j c0) X.env), (false, eval (.Constant (.str z) k c1) X.env), (false, eval (.Constant (.int 1) i c2) X.env)] := by rfl)
    (h1 : attributeBase o "replace" X.env (eval o X.env) = eval o X.env := by rfl) (h3 : (apos.endLine == pos.line) = true := by rfl) :
    PET X (.Call (.Attribute o "replace" apos) [.Constant (.str y) j c0, .Constant (.str z) k c1, .Constant (.int 1) i c2] [] pos) (tRep1 to y z) := by
  intro pins s σ H Q one I h
  refine call_m3 h1 h2 h3 (wpAny_mono (PySem.wpAny_toks (ho.run pins s σ H _ I h)) (fun v sh q => ?_) fun _ _ z => z.2)
  obtain ⟨mono, v', H', I', rv, x, ex, bound, qx⟩ := q
  subst ex
  obtain ⟨tx, ev⟩ := rv
  subst ev
  refine ⟨"str", _, F.plainAttrs_str, F.slot_str_replace, F.type_str_replace, typeIs_str _ _ _, (fun _ e => nomatch e), ?_⟩
  refine Calls.callWith_builtin rfl (Calls.evalArgs_plain (Calls.spliced_cons (Calls.Constant_str (Calls.spliced_cons (Calls.Constant_str (Calls.spliced_cons (wpAny_Constant_int (Calls.spliced_nil ?_))))))))
  have t1 : sh.toks ≠ 0 := by omega
  have t2 : sh.toks + 1 ≠ 0 := by omega
  have t3 : sh.toks ≠ sh.toks + 1 := by omega
  exact sc_rep1 t1 t2 t3 hy0 hyz bound fun t' k => ⟨.str (rep1 x y z), H', I'.tok k, ⟨t', rfl⟩, qx⟩
end
end Pu
set_option Elab.async false
set_option linter.all false
set_option maxRecDepth 100000
set_option maxHeartbeats 2000000
/-! Pu13: one token is out -/
namespace Pu
open PySem PySem.Spec PyProof.Rows L2
section
variable {X : Cx} {W : WX} {e a b c : Expr} {es rest : List Expr} {tt tA tB : TT} {te ta tb : TE} {pos p : Pos} {i j : Nat}
/-- a test that leaves a token out -/
def PTR (X : Cx) (e : Expr) (t : TT) : Prop :=
  ∀ (pins : List (Addr × Obj)) (s : Shared) (σ : L2.St) (H : Hp) (Q : Bool → Hp → Prop), Inv X pins σ H s → t σ H Q → wpAny (model X.prog X.w) X.A (isTrue e X.env (eval e X.env)) (fun k s1 => 1 ≤ s1.toks ∧ TP X pins σ Q k s1) X.xe s
def PTT (X : Cx) (e : Expr) (t : TT) : Prop :=
  ∀ (pins : List (Addr × Obj)) (s : Shared) (σ : L2.St) (H : Hp) (Q : Bool → Hp → Prop), 1 ≤ s.toks → Inv X pins σ H s → t σ H Q → wpAny (model X.prog X.w) X.A (isTrue e X.env (eval e X.env)) (TP X pins σ Q) X.xe s
def PWT (X : Cx) (e : Expr) (t : TT) : Prop :=
  ∀ (whole : Sem Value) (pins : List (Addr × Obj)) (s : Shared) (σ : L2.St) (H : Hp) (Q : Bool → Hp → Prop), 1 ≤ s.toks → Inv X pins σ H s → t σ H Q → wpAny (model X.prog X.w) X.A (isTrue e X.env whole) (TP X pins σ Q) X.xe s
theorem ptr_cmp {op : CmpOp} {r : R2} {n : Int} (ho : OpR X (compareOp op) r) (ha : L2.PE X a ta) (hm : behindInMarks op (.Constant (.int n) j p) = false) : PTR X (.Compare a [op] [.Constant (.int n) j p] pos) (tTest (tOp r ta (tC (.int n)))) := by
  intro pins s σ H Q I h
  refine wpAny_isTrue_Compare1 (thn (ha.run pins s σ H _ I h) fun v sh ⟨x, H1, I1, rx, qx⟩ => wpAny_Constant_int ?_) hm
  have one : 1 ≤ ({ sh with toks := sh.toks + 1 } : Shared).toks := Nat.le_add_left 1 sh.toks
  refine wpAny_mono (PySem.wpAny_toks_of one (ho pins _ σ H1 x (.int n) v _ _ (I1.tok _) rx ⟨_, rfl⟩ qx)) (fun d s3 hd => ?_) fun _ _ z => z.2
  obtain ⟨le, z, H3, I3, rz, k, ez, q3⟩ := hd
  subst ez
  cases rz
  exact wpAny_truthy_bool ⟨le, H3, I3, q3⟩
theorem ptt_cmp {op : CmpOp} {r : R2} (ho : OpR X (compareOp op) r) (ha : PET X a ta) (hb : L2.PE X b tb) (hm : behindInMarks op b = false) : PTT X (.Compare a [op] [b] pos) (tTest (tOp r ta tb)) := by
  intro pins s σ H Q one I h
  refine wpAny_isTrue_Compare1 (thn (ha pins s σ H _ one I h) fun v sh ⟨x, H1, I1, rx, qx⟩ => thn (hb.run pins sh σ H1 _ I1 qx) fun u s2 ⟨y, H2, I2, ry, qy⟩ => thn (ho pins s2 σ H2 x y v u _ I2 rx ry qy) fun d s3 hd => ?_) hm
  obtain ⟨z, H3, I3, rz, k, ez, q3⟩ := hd
  subst ez
  cases rz
  exact wpAny_truthy_bool ⟨H3, I3, q3⟩
theorem pwt_or1 (ha : PTT X a tA) : PWT X (.BoolOp .Or [a] pos) tA := by
  intro wh pins s σ H Q one I h
  refine isTrue_or (thn (ha pins s σ H Q one I h) fun k sh g => ?_)
  cases k with
  | false => exact isTrue_or_nil g
  | true => exact g
theorem pwt_or (ha : PTT X a tA) (hb : PWT X (.BoolOp .Or (b :: rest) pos) tB) : PWT X (.BoolOp .Or (a :: b :: rest) pos) (tOr tA tB) := by
  intro wh pins s σ H Q one I h
  refine isTrue_or (wpAny_mono (PySem.wpAny_toks_of one (ha pins s σ H _ one I h)) (fun k sh g => ?_) fun _ _ z => z.2)
  obtain ⟨le, H1, I1, q1⟩ := g
  cases k with
  | true => exact ⟨H1, I1, q1⟩
  | false => exact hb wh pins sh σ H1 Q le I1 q1
theorem ptr_or (ha : PTR X a tA) (hb : PWT X (.BoolOp .Or (b :: rest) pos) tB) : PTR X (.BoolOp .Or (a :: b :: rest) pos) (tOr tA tB) := by
  intro pins s σ H Q I h
  refine isTrue_or (thn (ha pins s σ H _ I h) fun k sh g => ?_)
  obtain ⟨le, H1, I1, q1⟩ := g
  cases k with
  | true => exact ⟨le, H1, I1, q1⟩
  | false => exact wpAny_mono (PySem.wpAny_toks_of le (hb _ pins sh σ H1 Q le I1 q1)) (fun _ _ g => g) fun _ _ z => z.2
theorem PWT.t (h : PWT X e tt) : PTT X e tt := fun pins s σ H Q one I q => h _ pins s σ H Q one I q
theorem PTT.of (h : L2.PT X e tt) : PTT X e tt := fun pins s σ H Q _ I q => h.run pins s σ H Q I q
/-- a statement that leaves a token out -/
def PSR (X : Cx) (st : Stmt) (t : TS) : Prop :=
  ∀ (pins : List (Addr × Obj)) (s : Shared) (σ : L2.St) (H : Hp) (D : Ends), Inv X pins σ H s → t D σ H → wpAny (model X.prog X.w) X.A (exec st X.env) (fun f s1 => 1 ≤ s1.toks ∧ SP X pins D f s1) X.xe s
theorem psr_if {th el : List Stmt} {t u : TS} (hc : PTR X c tt) (ha : L2.PSs X th t) (hb : L2.PSs X el u) : PSR X (.If c th el pos) (tIfS tt t u) := by
  intro pins s σ H D I h
  refine wpAny_If (thn (hc pins s σ H _ I h) fun k sh g => ?_)
  obtain ⟨le, H1, I1, q1⟩ := g
  cases k with
  | true => exact wpAny_mono (PySem.wpAny_toks_of le (ha.run pins sh σ H1 D I1 q1)) (fun _ _ g => g) fun _ _ z => z.2
  | false => exact wpAny_mono (PySem.wpAny_toks_of le (hb.run pins sh σ H1 D I1 q1)) (fun _ _ g => g) fun _ _ z => z.2
theorem pss_consR {st : Stmt} {more : List Stmt} {t u : TS} (h1 : PSR X st t) (h2 : PSsT X more u) : L2.PSs X (st :: more) (tSeq t u) := by
  refine ⟨fun pins s σ H D I h => ?_⟩
  refine wpAny_execs_cons (thn (h1 pins s σ H { D with nx := u D } I h) fun f sh g => ?_)
  obtain ⟨le, g⟩ := g
  cases f with
  | next =>
    obtain ⟨σ', H', I', q⟩ := g
    exact h2 pins sh σ' H' D le I' q
  | ret v => exact g
  | brk => exact g
  | cont => exact g
theorem pet_callS {sp : Sp} {f : Addr} {fd : FuncData} {ps : List Str} {k : Nat} {x : Str} {CX : CXT} {E : L2.St → Value → Option Addr → Hp → Prop} {t : TA} (F : FnOk X.prog X.w X.K X.mg X.base CX k f fd ps sp) (hr : Room k X.A) (hg : Gl X x) (hm : X.mg x = some (.ref f)) (hk : PySem.W.keepIn X.K (.ref f) = true) (hb : Binds X.K fd ps []) (hx : ∀ σ, PassesAt CX X σ (E σ))
    (ha : PAT X (e :: es) t) (hdb : (x == ("__debug__" : Str)) = false := by decide) (he : starEach (e :: es) X.env = (false, eval e X.env) :: starEach es X.env := by rfl) (hpl : (backTo pos (starEach es X.env)).any (·.1) = false := by rfl) :
    PET X (.Call (.Name x p) (e :: es) [] pos) (tCallS sp E t) := by
  intro pins s σ H Q one I h
  refine wpAny_Call_Name_kw (ld_glob I hg hm (PySem.W.callWith_K (h₀ := X.base) I.ok.mod.kin hk (thn (ha pos pins s σ H _ one I h) fun us sh g => ?_) he hpl) hdb)
  obtain ⟨vs, H1, I1, rv, q⟩ := g
  exact ⟨I1.kIn, run_fnS F hr hb (hx σ) I1 rv q⟩
theorem pst_ifT {th el : List Stmt} {t u : TS} (hc : PTT X c tt) (ha : L2.PSs X th t) (hb : L2.PSs X el u) : PST X (.If c th el pos) (tIfS tt t u) := by
  intro pins s σ H D one I h
  refine wpAny_If (thn (hc pins s σ H _ one I h) fun k sh g => ?_)
  obtain ⟨H1, I1, q1⟩ := g
  cases k with
  | true => exact ha.run pins sh σ H1 D I1 q1
  | false => exact hb.run pins sh σ H1 D I1 q1
end
end Pu
set_option Elab.async false
set_option linter.all false
set_option maxRecDepth 100000
set_option maxHeartbeats 2000000
/-! Pu14: one token is out: the readings -/
namespace Pu
open PySem PySem.Spec PyProof.Rows L2
structure DTR (X : Cx) (W : WX) (e : Expr) (t : RT) where
  tt : TT
  p : PTR X e tt
  g : Gt X.K W tt t
structure DTT (X : Cx) (W : WX) (e : Expr) (t : RT) where
  tt : TT
  p : PTT X e tt
  g : Gt X.K W tt t
structure DWT (X : Cx) (W : WX) (e : Expr) (t : RT) where
  tt : TT
  p : PWT X e tt
  g : Gt X.K W tt t
structure DET (X : Cx) (W : WX) (e : Expr) (t : RE) where
  te : TE
  p : PET X e te
  g : Ge X.K W te t
structure DAT (X : Cx) (W : WX) (es : List Expr) (t : RA) where
  ta : TA
  p : PAT X es ta
  g : Ga X.K W ta t
structure DSsT (X : Cx) (W : WX) (st : List Stmt) (t : RS) where
  ts : TS
  p : PSsT X st ts
  g : Gs X.K W ts t
section
variable {X : Cx} {W : WX} {e a b c : Expr} {es rest : List Expr} {te ta tb to : RE} {ra : RA} {t u : RT} {pos p : Pos} {i j k : Nat}
noncomputable def dtr_ne {n : Int} (hu : X.A.units + 64 < cLine) (ha : DE X W a ta) : DTR X W (.Compare a [.NotEq] [.Constant (.int n) j p] pos) (rT (r2 fNe ta (rC (.int n)))) :=
  ⟨_, ptr_cmp (op_neAll hu) ha.p (nomark _), gt_of (ge_op rule_ne ha.g (ge_c fun _ => .int n))⟩
noncomputable def dtt_ne (hu : X.A.units + 64 < cLine) (ha : DET X W a ta) (hb : DE X W b tb) : DTT X W (.Compare a [.NotEq] [b] pos) (rT (r2 fNe ta tb)) :=
  ⟨_, ptt_cmp (op_neAll hu) ha.p hb.p (nomark _), gt_of (ge_op rule_ne ha.g hb.g)⟩
noncomputable def dtt_of (h : DT X W e t) : DTT X W e t := ⟨_, PTT.of h.p, h.g⟩
noncomputable def det_of (h : DE X W e te) : DET X W e te := ⟨_, fun pins s σ H Q _ I q => h.p.run pins s σ H Q I q, h.g⟩
noncomputable def dtt_w (h : DWT X W e t) : DTT X W e t := ⟨_, h.p.t, h.g⟩
theorem gt_or {K : PySem.W.Frag} {t1 t2 : TT} (g1 : Gt K W t1 t) (g2 : Gt K W t2 u) : Gt K W (tOr t1 t2) (rOr t u) := fun U env σ H Q q x hE h k hx => by
  refine g1 U env σ H _ _ x hE h (fun d H1 e1 hq => ?_) hx
  cases d with
  | false => exact g2 U env σ H1 _ _ x (hE.mono e1) hq (fun d H2 e2 z => k d H2 (e1.trans e2) z) (hx.next e1)
  | true => exact k true H1 e1 hq
noncomputable def dwt_or1 (h : DTT X W a t) : DWT X W (.BoolOp .Or [a] pos) t := ⟨_, pwt_or1 h.p, h.g⟩
noncomputable def dwt_or (h : DTT X W a t) (h2 : DWT X W (.BoolOp .Or (b :: es) pos) u) : DWT X W (.BoolOp .Or (a :: b :: es) pos) (rOr t u) := ⟨_, pwt_or h.p h2.p, gt_or h.g h2.g⟩
noncomputable def dtr_or (h : DTR X W a t) (h2 : DWT X W (.BoolOp .Or (b :: es) pos) u) : DTR X W (.BoolOp .Or (a :: b :: es) pos) (rOr t u) := ⟨_, ptr_or h.p h2.p, gt_or h.g h2.g⟩
@[simp] def rRep1 (y z : Str) (te : RE) : RE := fun env q x => te env (fun s => match s.d with | .str a => a.length + (a.length + 1) * z.length ≤ 16777216 ∧ q (.fz (.str (rep1 a y z))) | _ => False) x
noncomputable def det_rep1 {y z : Str} {c0 c1 c2 apos : Pos} (ho : DE X W a to) (hyz : (y == z) = false := by decide +kernel) (hy0 : (y.length == 0 && z.length == 0) = false := by decide +kernel)
    (h2 : starEach [.Constant (.str y) j c0, .Constant (.str z) k c1, .Constant (.int 1) i c2] X.env = [(false, eval (.Constant (.str y) j c0) X.env), (false, eval (.Constant (.str z) k c1) X.env), (false, eval (.Constant (.int 1) i c2) X.env)] := by rfl)
    (h1 : attributeBase a "replace" X.env (eval a X.env) = eval a X.env := by rfl) (h3 : (apos.endLine == pos.line) = true := by rfl) :
    DET X W (.Call (.Attribute a "replace" apos) [.Constant (.str y) j c0, .Constant (.str z) k c1, .Constant (.int 1) i c2] [] pos) (rRep1 y z to) := by
  obtain ⟨t1, p1, g1⟩ := ho
  refine ⟨_, pet_rep1 p1 hyz hy0 h2 h1 h3, fun U env σ H Q q x hE h kk hx => ?_⟩
  refine ge_d g1 (q := fun d => match d with | .str a => a.length + (a.length + 1) * z.length ≤ 16777216 ∧ q (.fz (.str (rep1 a y z))) | _ => False) hE h (fun v H1 d e1 r1 hq => ?_) hx
  cases d <;> first | exact hq.elim | skip
  cases r1
  exact ⟨_, rfl, hq.1, kk _ H1 (.fz (.str _)) e1 (.str _) hq.2⟩
noncomputable def dat_one (h : DET X W e te) (hs : starEach [e] X.env = (false, eval e X.env) :: starEach [] X.env := by rfl) : DAT X W [e] (rCons te rNil) := by
  obtain ⟨t1, p1, g1⟩ := h
  refine ⟨_, pat_cons p1 pat_nil hs, fun U env σ H Q q x hE h k hx => ?_⟩
  exact ge_d g1 (q := fun d => q [d]) hE h (fun v H1 d e1 r1 h1 => k _ H1 _ e1 (.cons r1 .nil) h1) hx
noncomputable def det_fn {x : Str} {k : Nat} {ps : List Str} {φ : FSp} (c : Cal X.prog X.w X.K X.mg X.base k x ps φ) (tk : Takes X W) (hr : Room k X.A) (ha : DAT X W (e :: es) ra) (hg : Gl X x := by rfl) (hdb : (x == ("__debug__" : Str)) = false := by decide)
    (he : starEach (e :: es) X.env = (false, eval e X.env) :: starEach es X.env := by rfl) (hpl : (backTo pos (starEach es X.env)).any (·.1) = false := by rfl) : DET X W (.Call (.Name x p) (e :: es) [] pos) (rFn φ ra) := by
  obtain ⟨t1, p1, g1⟩ := ha
  refine ⟨_, pet_callS c.ok hr hg c.mg c.kp c.b (fun σ => passAt tk σ) p1 hdb he hpl, fun U env σ H Q q x hE h k hx => ?_⟩
  refine g1 U env σ H _ _ x hE h (fun vs H1 ds e1 r1 hq => ?_) hx
  exact ⟨U, ds, q, x, fun a u => same_some e1 (hE.1 a u), r1, hq, fun v H' s e' sv z => k v H' s (e1.trans e') (sv.back e1) z, fun c fs d H' hc e' hv => hx c fs d H' hc (e1.trans e') (hv.back e1)⟩
noncomputable def dsst_of {st : List Stmt} {t : RS} (h : DSs X W st t) : DSsT X W st t := ⟨_, PSsT.of h.p, h.g⟩
theorem gs_if {K : PySem.W.Frag} {tt : TT} {t1 t2 : TS} {r1 r2 : RS} (hc : Gt K W tt t) (ha : Gs K W t1 r1) (hb : Gs K W t2 r2) : Gs K W (tIfS tt t1 t2) (wIf t r1 r2) := fun B H0 M G0 σ H env Dn P x hB h ht k => by
  obtain ⟨U, ps, h⟩ := h
  refine run_t hc k h ht fun d H' e1 q => ?_
  cases d with
  | true => exact ha B H0 M G0 σ H' env Dn P x hB (h.grow e1).sn q k
  | false => exact hb B H0 M G0 σ H' env Dn P x hB (h.grow e1).sn q k
theorem gs_seq {K : PySem.W.Frag} {t1 t2 : TS} {r1 r2 : RS} (h1 : Gs K W t1 r1) (h2 : Gs K W t2 r2) : Gs K W (tSeq t1 t2) (wSeq r1 r2) := fun B H0 M G0 σ H env Dn P x hB h t k =>
  h1 B H0 M G0 σ H env _ _ x hB h t ⟨fun σ' H' env' q s => h2 B H0 M G0 σ' H' env' Dn P x hB s q k, k.bk, k.ct, k.rt, k.ex⟩
noncomputable def dss_ifR {th el more : List Stmt} {r1 r2 r3 : RS} (hc : DTR X W c t) (ha : DSs X W th r1) (hb : DSs X W el r2) (hr : DSsT X W more r3) : DSs X W (.If c th el pos :: more) (wSeq (wIf t r1 r2) r3) :=
  ⟨_, pss_consR (psr_if hc.p ha.p hb.p) hr.p, gs_seq (gs_if hc.g ha.g hb.g) hr.g⟩
noncomputable def dsst_if {th el more : List Stmt} {r1 r2 r3 : RS} (hc : DTT X W c t) (ha : DSs X W th r1) (hb : DSs X W el r2) (hr : DSsT X W more r3) : DSsT X W (.If c th el pos :: more) (wSeq (wIf t r1 r2) r3) :=
  ⟨_, psst_cons (pst_ifT hc.p ha.p hb.p) hr.p, gs_seq (gs_if hc.g ha.g hb.g) hr.g⟩
end
end Pu
set_option Elab.async false
set_option linter.all false
set_option maxRecDepth 100000
set_option maxHeartbeats 2000000
/-! Pu15: what the head tells: constants, dicts, error classes, defs, read by Bools -/
namespace Pu
open PySem PySem.Spec PyProof.Rows L2
theorem ba {a b : Bool} (h : (a && b) = true) : a = true ∧ b = true := Bool.and_eq_true_iff.mp h
/-- a written value stands for a datum -/
def repB (K : PySem.W.Frag) : Nat → Value → D → Bool
  | 0, _, _ => false
  | n + 1, u, d => match d with
    | .non => (match u with
      | .none => true
      | _ => false)
    | .bl c => (match u with
      | .bool b => b == c
      | _ => false)
    | .int j => (match u with
      | .int i _ => decide (i = j)
      | _ => false)
    | .str y => (match u with
      | .str x _ => decide (x = y)
      | _ => false)
    | .tup ds => (match u with
      | .ref a => (match K.lookup a with
        | some ⟨.type c, _, .seq its _, _⟩ => decide (c = "tuple") && (decide (its.size ≤ sizeLine) && (decide (its.toList.length = ds.length) && ((its.toList.zip ds).all fun p => repB K n p.1 p.2)))
        | _ => false)
      | _ => false)
    | _ => false
theorem repB_all {K : PySem.W.Frag} {n : Nat} (ih : ∀ u d, repB K n u d = true → ∃ v, RelV v u ∧ ∀ G, Rp K G v d) : ∀ (us : List Value) (ds : List D), us.length = ds.length → ((us.zip ds).all fun p => repB K n p.1 p.2) = true → ∃ vs, Vals vs us ∧ ∀ G, Rps K G vs ds
  | [], [], _, _ => ⟨[], .nil, fun _ => .nil⟩
  | [], _ :: _, e, _ => by simp at e
  | _ :: _, [], e, _ => by simp at e
  | u :: us, d :: ds, e, h => by
    rw [List.zip_cons_cons, List.all_cons] at h
    obtain ⟨h1, h2⟩ := ba h
    obtain ⟨v, a1, a2⟩ := ih u d h1
    obtain ⟨vs, b1, b2⟩ := repB_all ih us ds (by simpa using e) h2
    exact ⟨v :: vs, .cons a1 b1, fun G => .cons (a2 G) (b2 G)⟩
theorem repB_ok {K : PySem.W.Frag} : ∀ (n : Nat) (u : Value) (d : D), repB K n u d = true → ∃ v, RelV v u ∧ ∀ G, Rp K G v d
  | 0, _, _, h => by cases h
  | n + 1, u, d, h => by
    unfold repB at h
    cases d with
    | non => cases u with
      | none => exact ⟨.non, rfl, fun _ => .non⟩
      | _ => cases h
    | bl c => cases u with
      | bool b =>
        have e : b = c := eq_of_beq h
        subst e
        exact ⟨.bl b, rfl, fun _ => .bl b⟩
      | _ => cases h
    | int j => cases u with
      | int i t =>
        have e : i = j := of_decide_eq_true h
        subst e
        exact ⟨.int i, ⟨t, rfl⟩, fun _ => .int i⟩
      | _ => cases h
    | str y => cases u with
      | str x t =>
        have e : x = y := of_decide_eq_true h
        subst e
        exact ⟨.str x, ⟨t, rfl⟩, fun _ => .str x⟩
      | _ => cases h
    | tup ds => cases u with
      | ref a =>
        dsimp only at h
        split at h
        · rename_i c od its m sl lk
          obtain ⟨h1, h⟩ := ba h
          obtain ⟨h2, h⟩ := ba h
          obtain ⟨h3, h4⟩ := ba h
          have e : c = "tuple" := of_decide_eq_true h1
          subst e
          obtain ⟨vs, b1, b2⟩ := repB_all (repB_ok n) its.toList ds (of_decide_eq_true h3) h4
          exact ⟨.ref a, rfl, fun G => .tup (.inr ⟨_, its, m, lk, rfl, rfl, of_decide_eq_true h2, b1⟩) (b2 G)⟩
        · cases h
      | _ => cases h
    | _ => cases h
/-- a constant of the module -/
def gvB (K : PySem.W.Frag) (x : Str) (d : D) : Bool := match PySem.W.nsIn K mainGlobals x with
  | some (some u) => repB K 12 u d
  | _ => false
theorem gvB_ok {K : PySem.W.Frag} {h : Heap} {mg : Str → Option Value} {x : Str} {d : D} (X : K.In h) (G : h.Ns mainGlobals mg) (e : gvB K x d = true) : Nonempty (GV K mg x d) := by
  unfold gvB at e
  split at e
  · rename_i u hu
    obtain ⟨v, r, rp⟩ := repB_ok _ _ _ e
    exact ⟨⟨v, u, PySem.W.mg_of X G hu, r, rp⟩⟩
  · cases e
/-- a dict of the module -/
def entB (K : PySem.W.Frag) (e : DictEntry) (p : Str × D) : Bool := (match e.key with
  | .str z _ => decide (z = p.1)
  | _ => false) && repB K 12 e.val p.2
def gdB (K : PySem.W.Frag) (x : Str) (kv : List (Str × D)) : Bool := eqO' (PySem.W.nsIn K mainGlobals x) (He.ga K x) && (match K.lookup (He.ga K x) with
  | some ⟨_, _, .dict es _, _⟩ => decide (es.toList.length = kv.length) && ((es.toList.zip kv).all fun p => entB K p.1 p.2)
  | _ => false)
where eqO' (a : Option (Option Value)) (b : Addr) : Bool := decide (a = some (some (.ref b)))
theorem entB_all {K : PySem.W.Frag} : ∀ (es : List DictEntry) (kv : List (Str × D)), es.length = kv.length → ((es.zip kv).all fun p => entB K p.1 p.2) = true →
    Paired (fun (e : DictEntry) (p : Str × D) => (∃ t, e.key = .str p.1 t) ∧ ∃ v, RelV v e.val ∧ ∀ G, Rp K G v p.2) es kv
  | [], [], _, _ => .nil
  | [], _ :: _, e, _ => by simp at e
  | _ :: _, [], e, _ => by simp at e
  | u :: us, d :: ds, e, h => by
    rw [List.zip_cons_cons, List.all_cons] at h
    obtain ⟨h1, h2⟩ := ba h
    refine .cons ?_ (entB_all us ds (by simpa using e) h2)
    obtain ⟨h3, h4⟩ := ba h1
    refine ⟨?_, repB_ok _ _ _ h4⟩
    dsimp only at h3
    split at h3
    · rename_i z t ez
      have := of_decide_eq_true h3
      exact ⟨t, by rw [ez, this]⟩
    · cases h3
theorem gdB_ok {K : PySem.W.Frag} {w : World} {h : Heap} {mg : Str → Option Value} {x : Str} {kv : List (Str × D)} (X : K.In h) (G : h.Ns mainGlobals mg) (e : gdB K x kv = true) (t : ∃ es n, KDict K w (He.ga K x) es n) : Nonempty (GD K w mg x kv) := by
  obtain ⟨es, n, kd⟩ := t
  obtain ⟨h1, h2⟩ := ba e
  have hm : PySem.W.nsIn K mainGlobals x = some (some (.ref (He.ga K x))) := of_decide_eq_true h1
  rw [kd.at_] at h2
  dsimp only at h2
  obtain ⟨h3, h4⟩ := ba h2
  exact ⟨⟨_, es, n, PySem.W.mg_of X G hm, kd, entB_all _ _ (of_decide_eq_true h3) h4⟩⟩
/-- an own error class -/
def oexB (K : PySem.W.Frag) (C : Addr) : Bool := (match K.lookup C with
  | some ⟨.type t, _, .cls cd, sl⟩ => (match cd.mro, sl.toList with
    | .ref C' :: bm, [_, _, _, _, some (.builtin n), _] => decide (t = "type") && (decide (C' = C) && (decide (n = "ValueError.__new__") && (!cd.hasDel && (cd.hasDict && PySem.HandSPX.refsVE bm))))
    | _, _ => false)
  | _ => false) && (decide (PySem.W.findIn K (.ref C) "__setattr__" = some (some (.builtin "object.__setattr__"))) && (decide (PySem.W.subIn K (.ref C) (.type "BaseException") = some true) && (decide (PySem.W.typeIn K (.ref C) = some (.type "type")) && PySem.W.keepIn K (.ref C))))
theorem oexB_ok {K : PySem.W.Frag} {C : Addr} (e : oexB K C = true) : OexC K C := by
  unfold oexB at e
  obtain ⟨q, e⟩ := ba e
  obtain ⟨e1, e⟩ := ba e
  obtain ⟨e2, e⟩ := ba e
  obtain ⟨e3, e4⟩ := ba e
  refine ⟨?_, of_decide_eq_true e1, of_decide_eq_true e2, of_decide_eq_true e3, e4⟩
  split at q
  · rename_i t dd cd sl ho
    split at q
    · rename_i C' bm k0 k1 k2 k3 n k5 hm hs
      obtain ⟨q0, q⟩ := ba q
      obtain ⟨q1, q⟩ := ba q
      obtain ⟨q2, q⟩ := ba q
      obtain ⟨q3, q⟩ := ba q
      obtain ⟨q4, q5⟩ := ba q
      have w0 : t = "type" := of_decide_eq_true q0
      have w1 : C' = C := of_decide_eq_true q1
      have w2 : n = "ValueError.__new__" := of_decide_eq_true q2
      subst w0 w1 w2
      obtain ⟨nm, bs, mro, ns, qn, hd, sn, sub, ab, col, del⟩ := cd
      dsimp only at hm q3 q4
      subst hm
      have q3' : del = false := by simpa using q3
      subst q3' q4
      have hsl : sl = #[k0, k1, k2, k3, some (.builtin "ValueError.__new__"), k5] := by
        obtain ⟨l⟩ := sl
        simp only at hs
        rw [hs]
      subst hsl
      exact ⟨_, _, _, _, _, _, _, _, _, _, _, _, _, _, _, ho, q5⟩
    · cases q
  · cases q
def puB (K : PySem.W.Frag) (D : Addr) : Bool := decide (PySem.W.findIn K (.ref D) "__getattribute__" = some (some (.builtin "BaseException.__getattribute__"))) && (decide (PySem.W.findIn K (.ref D) "__getattr__" = some none) && (decide (PySem.W.subIn K (.ref D) (.type "BaseException") = some true) && (PySem.W.hasDictIn K D &&
  (decide (PySem.W.findIn K (.ref D) "__class__" = some (some (.builtin "object.__class__"))) && (decide (PySem.W.specialIn K (.builtin "object.__class__") "__get__" = some (some (.builtin "getset_descriptor.__get__"))) && (decide (PySem.W.takesIn K (.builtin "object.__class__") = some true) && decide (PySem.W.mroIn K D (.type "object") = some true)))))))
theorem puB_ok {K : PySem.W.Frag} {D : Addr} (e : puB K D = true) : PySem.W.PuX K D := by
  obtain ⟨e1, e⟩ := ba e
  obtain ⟨e2, e⟩ := ba e
  obtain ⟨e3, e⟩ := ba e
  obtain ⟨e4, e⟩ := ba e
  obtain ⟨e5, e⟩ := ba e
  obtain ⟨e6, e⟩ := ba e
  obtain ⟨e7, e8⟩ := ba e
  exact ⟨of_decide_eq_true e1, of_decide_eq_true e2, of_decide_eq_true e3, e4, of_decide_eq_true e5, of_decide_eq_true e6, of_decide_eq_true e7, of_decide_eq_true e8⟩
/-- an error class with its __init__ and fields -/
def errB (K : PySem.W.Frag) (x : Str) (fs : List Str) : Bool := oexB K (He.ga K x) && (xfB K (He.ga K x) && (puB K (He.ga K x) && (decide (PySem.W.findIn K (.ref (He.ga K x)) "__init__" = some (some (.ref (He.ma K (He.ga K x) "__init__")))) && (decide (PySem.W.typeIn K (.ref (He.ma K (He.ga K x) "__init__")) = some (.type "function")) &&
  ((fs.all fun f => decide (PySem.W.findIn K (.ref (He.ga K x)) f = some none)) && decide (PySem.W.exmOne K (.ref (He.ga K x)) (.ref (He.ga K x)) = some true))))))
theorem funD_fun {K : PySem.W.Frag} {x q : Str} {st : Stmt} {f : Addr} {fd : FuncData} (F : FunD K x q (defArgs st) (defBody st) (defScope st) [] [] f fd) : Fun K x q st f fd := by
  obtain ⟨oc, od, dV, kV, doc, pm, an, cdv, ct, osl, rfl, lk, hcd, hD, hK⟩ := F.ex
  rcases hD with ⟨_, rfl⟩ | ⟨e, _⟩
  · exact ⟨⟨oc, od, kV, doc, pm, an, cdv, ct, osl, rfl, lk, hcd⟩, F.kp⟩
  · exact absurd rfl e
/-- one def of the top -/
def defD (x : Str) (st : Stmt) : He.DefD := ⟨(x, none), x, x, defArgs st, defBody st, defScope st, [], []⟩
def defM (C m q : Str) (st : Stmt) : He.DefD := ⟨(C, some m), m, q, defArgs st, defBody st, defScope st, [], []⟩
section
variable {P : Program} {w : World} {K : PySem.W.Frag} {mg : Str → Option Value} {base : Heap}
/-- an __init__ that keeps one argument -/
theorem fn_x1 {C : Addr} {q f x1 x2 : Str} {st : Stmt} {a : Addr} {fd : FuncData} {p1 p2 p3 pos : Pos} (F : Fun K "__init__" q st a fd) (S : FnScope [x1, x2] [x1, x2] (defScope st)) (T : OexC K C) (no : PySem.W.findIn K (.ref C) f = some none)
    (pp : ∀ X : Cx, X.N = [x1, x2] → X.K = K → X.env.scope = defScope st → PSs X (defBody st) (tOst K f (tVar 0) (tVar 1))) : FnOk P w K mg base CX0 1 a fd [x1, x2] (spX C [f]) :=
  F.ok S (spX_len rfl) fun cdv A outer s H vs Q E hr h => ⟨_, pp _ rfl rfl rfl, readX1 T no h rfl⟩
theorem fn_x2 {C : Addr} {q f g x1 x2 x3 : Str} {st : Stmt} {a : Addr} {fd : FuncData} (F : Fun K "__init__" q st a fd) (S : FnScope [x1, x2, x3] [x1, x2, x3] (defScope st)) (T : OexC K C) (no : PySem.W.findIn K (.ref C) f = some none) (no2 : PySem.W.findIn K (.ref C) g = some none)
    (pp : ∀ X : Cx, X.N = [x1, x2, x3] → X.K = K → X.env.scope = defScope st → PSs X (defBody st) (tSeq (tOst K f (tVar 0) (tVar 1)) (tOst K g (tVar 0) (tVar 2)))) : FnOk P w K mg base CX0 1 a fd [x1, x2, x3] (spX C [f, g]) :=
  F.ok S (spX_len rfl) fun cdv A outer s H vs Q E hr h => ⟨_, pp _ rfl rfl rfl, readX2 T no no2 h rfl⟩
theorem err_mk {x : Str} {fs : List Str} {ps : List Str} {fd : FuncData} {h : Heap} (X : K.In h) (G : h.Ns mainGlobals mg) (e : errB K x fs = true) (g : mg x = some (.ref (He.ga K x)))
    (ok : OexC K (He.ga K x) → (∀ f ∈ fs, PySem.W.findIn K (.ref (He.ga K x)) f = some none) → FnOk P w K mg base CX0 1 (He.ma K (He.ga K x) "__init__") fd ps (spX (He.ga K x) fs)) (b : Binds K fd ps []) :
    ∃ E : Err P w K mg base x fs, E.C = He.ga K x ∧ PySem.W.PuX K E.C ∧ PySem.W.exmOne K (.ref E.C) (.ref E.C) = some true := by
  obtain ⟨e1, e⟩ := ba e
  obtain ⟨e2, e⟩ := ba e
  obtain ⟨e3, e⟩ := ba e
  obtain ⟨e4, e⟩ := ba e
  obtain ⟨e5, e⟩ := ba e
  obtain ⟨e6, e7⟩ := ba e
  have no : ∀ f ∈ fs, PySem.W.findIn K (.ref (He.ga K x)) f = some none := fun f hf => of_decide_eq_true (List.all_eq_true.mp e6 f hf)
  exact ⟨⟨He.ga K x, _, fd, ps, oexB_ok e1, of_decide_eq_true e4, of_decide_eq_true e5, ok (oexB_ok e1) no, b, g, no, xfB_ok e2⟩, rfl, puB_ok e3, of_decide_eq_true e7⟩
end
/-- the script at the law's call -/
theorem sp_end {K : PySem.W.Frag} {φ : FSp} {H : Hp} {a : Addr} {ns : List Int} (hS : SqL K H a (ns.map V.int)) (h : φ [.frl (ns.map D.int)] (fun s => s = .fz (.bl true)) fun _ _ => False) : spF K φ [.ref a] H (fun v _ => v = .bl true) fun _ _ _ => False := by
  refine ⟨fun _ => False, [.frl (ns.map D.int)], _, _, fun _ z => z.elim, .cons (.frl ?_ (.of_ints ns)) .nil, h, fun v H' s _ sv e => ?_, fun _ _ _ _ z => z.elim⟩
  · have e : off H (fun _ => False) = H := by
      funext b
      exact if_neg id
    rw [e]
    exact hS
  · subst e
    have r : Rp K (off H' fun _ => False) v (.bl true) := sv
    cases r
    rfl
theorem law_at {l : PySem.W.OpenLaw} {w : World} {K : PySem.W.Frag} {CX : CXT} {k n : Nat} {x : Str} {mg : Str → Option Value} {fa : Addr} {h : Heap} {fd : FuncData} {sp : Sp} (hb : ∀ (s : Shared) (v : Value), BindsTo s fd ⟨[v], []⟩ [(x, v)])
    (hs : ∀ (H : Hp) (a : Addr) (ns : List Int), ns.length ≤ n → (∀ z ∈ ns, Builtin.Int.intBits z ≤ 1048576) → SqL K H a (ns.map V.int) → sp [.ref a] H (fun v _ => v = .bl true) fun _ _ _ => False)
    (hF : ∀ base : Heap, K.In base → base.Ns mainGlobals mg → FnOk l.prog w K mg base CX k fa fd [x] sp) : LamX.LawAtS l w K CX k n x mg fa h :=
  ⟨fd, [], sp, fun _ z => (by cases z), fun _ z => (by cases z), fun _ z => (by cases z), hb, fun H a ns h1 h2 _ h3 => hs H a ns h1 h2 h3, fun base h1 h2 _ => hF base h1 h2⟩
theorem cx_end {P : Program} {w : World} (H : Hp) (s : Shared) (e : Value) (s' : Shared) (h : L2.CX P w [] H s (fun _ _ _ => False) e s') : False := by
  obtain ⟨a, B, H', cls, d, _, _, _, _, _, _, _, z⟩ := h
  exact z
end Pu
set_option Elab.async false
set_option linter.all false
set_option maxRecDepth 100000
set_option maxHeartbeats 2000000
/-! K90a: the readings of the defs, their promises -/
namespace K90
open PySem PySem.Spec PyProof.Rows L2 Pu
/-! ### the mirror -/
def kinds5 : List Str := ["look", "answer", "want", "hold", "use"]
def named : List Str := ["look", "answer", "want", "hold", "use", "hang", "kept", "with", "without"]
def dNAMED : D := .tup (named.map D.str)
def kvHOLDING : List (Str × D) := [("not", .int 1), ("and", .int 2), ("or", .int 2), ("with", .int 1), ("without", .int 1)]
def signL : List Nat := ("abcdefghijklmnopqrstuvwxyz" : Str).cps.toList
def signS : List Nat := ("abcdefghijklmnopqrstuvwxyz0123456789" : Str).cps.toList
def isName (s : Str) : Bool := match s.cps.toList with
  | [] => false
  | c :: r => decide (r.length ≤ 7) && (decide (c ∈ signL) && ((c :: r).all fun d => decide (d ∈ signS)))
def isSpaced (s : Str) : Bool := match s.cps.toList with
  | [] => false
  | c :: r => decide (c ≠ 32) && (decide ((c :: r).getLast (by simp) ≠ 32) && decide (Txt.find s "  " < 0))
def W (ws : List Str) : D := .lst (ws.map D.str)
def count (w : Str) : Nat := match kvHOLDING.lookup w with
  | some (.int n) => n.toNat
  | _ => 0
def isHold (w : Str) : Bool := (kvHOLDING.lookup w).isSome
def isNamed (w : Str) : Bool := decide (w ∈ named)
def firstWord (ws : List Str) (at_ : Nat) : Except Nat Str := match ws[at_]? with
  | none => .error (at_ + 1)
  | some w => if isNamed w || isHold w then .ok w else .error (at_ + 1)
def nameAt (ws : List Str) (p : Nat) : Except Nat Str := match ws[p]? with
  | none => .error (p + 1)
  | some w => if isName w then .ok w else .error (p + 1)
def claimHead (ws : List Str) (at_ : Nat) : Except Nat (List Str × Nat) := do
  let w ← firstWord ws at_
  if isNamed w then
    let a ← nameAt ws (at_ + 1)
    let b ← nameAt ws (at_ + 2)
    return ([w, a, b], at_ + 3)
  else return ([w], at_ + 1)
/-- a claim that waits: its head, how many it wants, what it has -/
abbrev Fr := List Str × Nat × List D
def frD (f : Fr) : D := .tup [.tup (f.1.map D.str), .int f.2.1, .tup f.2.2]
def foldUp : List Fr → D → Option D × List Fr
  | [], c => (some c, [])
  | (hd, n, inner) :: w, c => if inner.length + 1 = n then foldUp w (.tup (hd.map D.str ++ (inner ++ [c]))) else (none, (hd, n, inner ++ [c]) :: w)
inductive PR where
  | err (n : Nat) | done (d : D) (at_ : Nat) (depth : Nat)
/-- the parser's turns: the claims that wait, the last one first -/
def turns : Nat → List Str → Nat → List Fr → Nat → PR
  | 0, _, _, _, _ => .err 0
  | f + 1, ws, at_, w, dep => match claimHead ws at_ with
    | .error n => .err n
    | .ok (hd, at2) =>
      let dep2 := max dep (w.length + 1)
      match hd with
      | [] => .err 0
      | h0 :: _ => if isHold h0 then turns f ws at2 ((hd, count h0, []) :: w) dep2
        else match foldUp w (.tup (hd.map D.str)) with
          | (some d, _) => .done d at2 dep2
          | (none, w2) => turns f ws at2 w2 dep2
def parse (text : Str) : Except Nat D :=
  if text = "" then .error 1 else
  let ws := Txt.split text " "
  if isSpaced text = false ∨ 60 < ws.length then .error 0 else
  match turns (ws.length + 1) ws 0 [] 0 with
  | .err n => .error n
  | .done d at_ dep => if at_ < ws.length then .error (at_ + 1) else if 12 < dep then .error 0 else .ok d
mutual
def flat : D → List Str
  | .str s => [s]
  | .lst xs => flats xs
  | .tup xs => flats xs
  | _ => []
def flats : List D → List Str
  | [] => []
  | d :: ds => flat d ++ flats ds
end
mutual
def wordy : D → Bool
  | .str _ => true
  | .lst xs => wordys xs
  | .tup xs => wordys xs
  | _ => false
def wordys : List D → Bool
  | [] => true
  | d :: ds => wordy d && wordys ds
end
mutual
def dsize : D → Nat
  | .lst xs => dsizes xs + 1
  | .tup xs => dsizes xs + 1
  | _ => 1
def dsizes : List D → Nat
  | [] => 0
  | d :: ds => dsize d + dsizes ds
end
mutual
def listed : D → D
  | .tup xs => .lst (listeds xs)
  | d => d
def listeds : List D → List D
  | [] => []
  | d :: ds => listed d :: listeds ds
end
mutual
def ddepth : D → Nat
  | .tup xs => ddepths xs + 1
  | _ => 0
def ddepths : List D → Nat
  | [] => 0
  | d :: ds => max (ddepth d) (ddepths ds)
end
/-! ### the draws -/
def lawCell (ns : List Int) (k : Nat) : Int := match ns[k]? with
  | some v => v % 10 ^ 60
  | none => ((ns.take 63).foldl (fun s c => (s * 31 + c % 1000003) % 1000003) 17 + 7) * ((k : Int) + 3) * 69621 % 2147483647
/-! ### the promises -/
def φ_is_name : FSp := fun ds q _ => ∃ s : Str, ds = [.str s] ∧ s.length ≤ 16777216 ∧ q (.fz (.bl (isName s)))
def φ_is_spaced : FSp := fun ds q _ => ∃ s : Str, ds = [.str s] ∧ s.length ≤ 16777216 ∧ q (.fz (.bl (isSpaced s)))
def ans (C : Addr) (q : S → Prop) (x : PX) : Except Nat D → Prop
  | .ok d => q (.fz d)
  | .error n => x (.ref C) [("word", .int n)]
def φ_first_word (C : Addr) : FSp := fun ds q x => ∃ (ws : List Str) (a : Nat), ds = [W ws, .int a] ∧ ws.length ≤ 1000 ∧ a ≤ 1000 ∧ ans C q x ((firstWord ws a).map D.str)
def φ_claim_head (C : Addr) : FSp := fun ds q x => ∃ (ws : List Str) (a : Nat), ds = [W ws, .int a] ∧ ws.length ≤ 1000 ∧ a ≤ 1000 ∧ (∀ w ∈ ws, w.length ≤ 16777216) ∧ ans C q x ((claimHead ws a).map fun p => .tup [.tup (p.1.map D.str), .int p.2])
def ψ_fold_up : GSp := fun ds0 ds q _ => ∃ (w : List Fr) (hd : List Str) (c : D), ds0 = (w.map frD).reverse ∧ ds = [c] ∧ (∃ cs, c = .tup cs ∧ cs.length ≤ 3) ∧ w.length ≤ 1000 ∧ (∀ f ∈ w, f.1.length ≤ 3 ∧ f.2.2.length ≤ 3) ∧ q ((foldUp w c).1.getD .non) (((foldUp w c).2).map frD).reverse
def φ_parse_claim (C : Addr) : FSp := fun ds q x => ∃ s : Str, ds = [.str s] ∧ s.length ≤ 10000 ∧ ans C q x (parse s)
def φ_format_claim : FSp := fun ds q _ => ∃ d : D, ds = [d] ∧ wordy d = true ∧ dsize d ≤ 1000 ∧ ((flat d).map (·.length)).sum ≤ 10000 ∧ q (.fz (.str (Txt.join " " (flat d))))
def φ_law_cell : FSp := fun ds q _ => ∃ (ns : List Int) (k : Nat), ds = [.frl (ns.map D.int), .int k] ∧ k ≤ 100 ∧ ns.length ≤ 63 ∧ ∀ n : Int, 0 ≤ n → q (.fz (.int n))
def φ_law_digits : FSp := fun ds q _ => ∃ (n : Int) (szs : List Int), ds = [.int n, .lst (szs.map D.int)] ∧ 0 ≤ n ∧ (∀ z ∈ szs, 0 < z ∧ z < 1000) ∧ szs.length ≤ 100 ∧ ∀ row : List Int, row.length = szs.length → (∀ (i : Nat) (z : Int), szs[i]? = some z → ∃ r : Int, row[i]? = some r ∧ 0 ≤ r ∧ r < z) → q (.fz (.lst (row.map D.int)))
def φ_law_names : FSp := fun ds q _ => ∃ (g : Int), ds = [.int g, .int 8] ∧ 0 ≤ g ∧ g < 24 ∧ ∀ ns : List Str, ns.length = 8 → (∀ n ∈ ns, isName n = true) → q (.fz (.lst (ns.map D.str)))
/-- a claim -/
inductive T where
  | leaf (k a b : Str) | one (hd : List Str) (c : T) | two (w : Str) (c d : T)
def T.words : T → List Str
  | .leaf k a b => [k, a, b]
  | .one hd c => hd ++ c.words
  | .two w c d => w :: (c.words ++ d.words)
def T.d : T → D
  | .leaf k a b => .tup [.str k, .str a, .str b]
  | .one hd c => .tup (hd.map D.str ++ [c.d])
  | .two w c d => .tup [.str w, c.d, d.d]
def T.depth : T → Nat
  | .leaf _ _ _ => 1
  | .one _ c => c.depth + 1
  | .two _ c d => max c.depth d.depth + 1
def kinds7 : List Str := ["look", "answer", "want", "hold", "use", "hang", "kept"]
def T.ok : T → Prop
  | .leaf k a b => k ∈ kinds7 ∧ isName a = true ∧ isName b = true
  | .one hd c => (hd = (["not"] : List Str) ∨ ∃ w a b, hd = [w, a, b] ∧ (w = "with" ∨ w = "without") ∧ isName a = true ∧ isName b = true) ∧ c.ok
  | .two w c d => (w = "and" ∨ w = "or") ∧ c.ok ∧ d.ok
def T.row (t : T) : D := .lst [t.d, W t.words, .int t.depth]
def φ_law_atom : FSp := fun ds q _ => ∃ (row : List Int) (a : Nat) (ns : List Str), ds = [.lst (row.map D.int), .int a, W ns] ∧ a + 2 < row.length ∧ 0 < ns.length ∧ ns.length ≤ 100 ∧ a ≤ 100 ∧ ∀ k ∈ kinds7, ∀ x ∈ ns, ∀ y ∈ ns, q (.fz (.lst [.tup [.str k, .str x, .str y], .lst [.str k, .str x, .str y]]))
def φ_law_claim : FSp := fun ds q _ => ∃ (row : List Int) (ns : List Str) (many most deep : Int), ds = [.lst (row.map D.int), W ns, .int many, .int most, .int deep] ∧ row.length = 51 ∧ ns.length = 12 ∧ (∀ n ∈ ns, isName n = true) ∧ 0 ≤ many ∧ many ≤ 12 ∧ 3 ≤ most ∧ most ≤ 60 ∧ 1 ≤ deep ∧
  ∀ t : T, t.ok → (t.words.length : Int) ≤ most → (t.depth : Int) ≤ deep → q (.fz t.row)
def φ_law_two : FSp := fun ds q _ => ∃ (l : T) (row : List Int) (ns : List Str) (many : Int) (w : Str), ds = [l.row, .lst (row.map D.int), W ns, .int many, .str w] ∧ row.length = 51 ∧ ns.length = 12 ∧ (∀ n ∈ ns, isName n = true) ∧ 0 ≤ many ∧ many ≤ 12 ∧ (w = "and" ∨ w = "or" ∨ w = "not") ∧ l.ok ∧ l.words.length ≤ 60 ∧ l.depth ≤ 12 ∧
  ∀ t : T, t.ok → t.words.length ≤ 60 → t.depth ≤ 12 → q (.fz t.row)
def φ_law_listed (n : Nat) : FSp := fun ds q _ => ∃ d : List D, ds = [.tup d] ∧ wordys d = true ∧ ddepths d < n ∧ dsizes d ≤ 1000 ∧ q (.fz (.lst (listeds d)))
def placesF : Nat → List Str → Nat → List Int
  | 0, _, _ => []
  | f + 1, ws, a => if ws.length ≤ a then [] else (a : Int) :: placesF f ws (if (ws.getD a "") ∈ (["not", "and", "or"] : List Str) then a + 1 else a + 3)
def φ_law_places : FSp := fun ds q _ => ∃ ws : List Str, ds = [W ws] ∧ ws.length ≤ 60 ∧ q (.fz (.lst ((placesF 100 ws 0).map D.int)))
def φ_law_deep : FSp := fun ds q _ => ∃ (ws : List Str) (m : Nat), ds = [W ws, .int m] ∧ ws.length ≤ 1000 ∧ m ≤ 1000 ∧ q (.fz (W (List.replicate m ("not" : Str) ++ ws)))
def φ_law_is_tuples : FSp := fun ds q _ => ∃ t : T, ds = [t.d] ∧ t.ok ∧ t.words.length ≤ 60 ∧ q (.fz (.bl true))
def φ_law_fault (C : Addr) : FSp := fun ds q _ => ∃ s : Str, ds = [.str s] ∧ s.length ≤ 10000 ∧ q (.fz (match parse s with | .error n => .int n | .ok _ => .tup [.str "refused", .int 0]))
def φ_law : FSp := fun ds q _ => ∃ ns : List Int, ds = [.frl (ns.map D.int)] ∧ ns.length ≤ 63 ∧ q (.fz (.bl true))
end K90
set_option Elab.async false
set_option linter.all false
set_option maxRecDepth 100000
set_option maxHeartbeats 2000000
/-! K90a: the readings of the defs, their promises -/
namespace K90
open PySem PySem.Spec PyProof.Rows L2 Pu
/-- def is_name(text), slots 0:text 1:sign; calls  -/
def w_is_name : RS := (wSeq (wIf (rOr (rT (r2 fLt (rLenO 0) (rC (.int 1)))) (rOr (rT (r2 fGt (rLenO 0) (rC (.int 8)))) (rT (r2 (fInB true) (rIxO 0 (rC (.int 0))) (rC (.str "abcdefghijklmnopqrstuvwxyz"))))))
  (wRetF (rC (.bl false)))
  wNext)
  (wRetF (rCall fAll (rCons (rLc (riStr (rVar 0)) (rgName 1) rYes (r2 (fInB false) (rVar 1) (rC (.str "abcdefghijklmnopqrstuvwxyz0123456789"))) [1]) rNil))))
/-- def is_spaced(line), slots 0:line; calls  -/
def w_is_spaced : RS := (wRetF (rAndV (r2 fNe (rVar 0) (rC (.str ""))) (rAndV (r2 fNe (rIxO 0 (rC (.int 0))) (rC (.str " "))) (rAndV (r2 fNe (rIxO 0 (Pu.r1 fNeg (rC (.int 1)))) (rC (.str " "))) (r2 fLt (rM1 fFind (rVar 0) (rC (.str "  "))) (rC (.int 0)))))))
/-- def first_word(words, at), slots 0:words 1:at; calls  -/
def w_first_word (ABadClaim : Addr) : RS := (wSeq (wIf (rOr (rT (r2 fGe (rVar 1) (rLenO 0))) (rAnd (rT (r2 (fInB true) (rIxO 0 (rVar 1)) (rC dNAMED))) (rT (Pu.r1 (fInD kvHOLDING true) (rIxO 0 (rVar 1))))))
  (wRaise ABadClaim ["word"] (rCons (r2 fAdd (rVar 1) (rC (.int 1))) rNil))
  wNext)
  (wRetF (rIxO 0 (rVar 1))))
/-- def claim_head(words, at), slots 0:words 1:at 2:head 3:count 4:place; calls first_word is_name -/
def w_claim_head (ABadClaim : Addr) : RS := (wSeq (wSet 2 (rTup (rCons (rFn (φ_first_word ABadClaim) (rCons (rVar 0) (rCons (rVar 1) rNil))) rNil)))
  (wSeq (wSet 3 (rIf (rT (r2 (fInB false) (rIxO 2 (rC (.int 0))) (rC dNAMED))) (rC (.int 2)) (rC (.int 0))))
  (wSeq (wFor (riR2 (r2 fAdd (rVar 1) (rC (.int 1))) (r2 fAdd (r2 fAdd (rVar 1) (rC (.int 1))) (rVar 3))) (rgName 4)
  (wSeq (wIf (rOr (rT (r2 fGe (rVar 4) (rLenO 0))) (rNot (rT (rFn φ_is_name (rCons (rIxO 0 (rVar 4)) rNil)))))
  (wRaise ABadClaim ["word"] (rCons (r2 fAdd (rVar 4) (rC (.int 1))) rNil))
  wNext)
  (wSet 2 (r2 fAdd (rVar 2) (rTup (rCons (rIxO 0 (rVar 4)) rNil))))))
  (wRetF (rTup (rCons (rVar 2) (rCons (r2 fAdd (r2 fAdd (rVar 1) (rC (.int 1))) (rVar 3)) rNil)))))))
/-- def fold_up(waiting, claim), slots 0:waiting 1:claim 2:done 3:inner 4:head 5:count; calls  -/
def w_fold_up : RS := (wSeq (wSet 2 (rVar 1))
  (wSeq (wWhile (rAnd (rTruO 0) (rT (r2 fNotN (rVar 2) (rC .non))))
  (wSeq (wPop 0 (rgTup 3 (rgCons (rgName 4) (rgCons (rgName 5) (rgCons (rgName 3) rgNil)))))
  (wSeq (wSet 3 (r2 fAdd (rVar 3) (rTup (rCons (rVar 2) rNil))))
  (wSeq (wSet 2 (rC .non))
  (wIf (rT (r2 fEq (rLenO 3) (rVar 5)))
  (wSet 2 (r2 fAdd (rVar 4) (rVar 3)))
  (wApp 0 (rTup (rCons (rVar 4) (rCons (rVar 5) (rCons (rVar 3) rNil))))))))))
  (wRetF (rVar 2))))
/-- def parse_claim(text), slots 0:text 1:words 2:waiting 3:done 4:depth 5:at 6:head; calls claim_head fold_up is_spaced -/
def w_parse_claim (ABadClaim : Addr) : RS := (wSeq (wIf (rT (r2 fEq (rVar 0) (rC (.str ""))))
  (wRaise ABadClaim ["word"] (rCons (rC (.int 1)) rNil))
  wNext)
  (wSeq (wSet 1 (rM1 fSplit (rVar 0) (rC (.str " "))))
  (wSeq (wIf (rOr (rNot (rT (rFn φ_is_spaced (rCons (rVar 0) rNil)))) (rT (r2 fGt (rLenO 1) (rC (.int 60)))))
  (wRaise ABadClaim ["word"] (rCons (rC (.int 0)) rNil))
  wNext)
  (wSeq (wSet 2 (rLst rNil))
  (wSeq (wSet 3 (rC .non))
  (wSeq (wSet 4 (rC (.int 0)))
  (wSeq (wSet 5 (rC (.int 0)))
  (wSeq (wWhile (rT (r2 fIsN (rVar 3) (rC .non)))
  (wSeq (wFrz 1 (wAsg (rFn (φ_claim_head ABadClaim) (rCons (rVar 1) (rCons (rVar 5) rNil))) (rgTup 2 (rgCons (rgName 6) (rgCons (rgName 5) rgNil)))))
  (wSeq (wSet 4 (rCall fMax (rCons (rVar 4) (rCons (r2 fAdd (rLenO 2) (rC (.int 1))) rNil))))
  (wIf (rT (Pu.r1 (fInD kvHOLDING false) (rIxO 6 (rC (.int 0)))))
  (wApp 2 (rTup (rCons (rVar 6) (rCons (Pu.r1 (fIxD kvHOLDING) (rIxO 6 (rC (.int 0)))) (rCons (rTup rNil) rNil)))))
  (wCallG ψ_fold_up 2 3 (rCons (rVar 6) rNil))))))
  (wSeq (wIf (rT (r2 fLt (rVar 5) (rLenO 1)))
  (wRaise ABadClaim ["word"] (rCons (r2 fAdd (rVar 5) (rC (.int 1))) rNil))
  wNext)
  (wSeq (wIf (rT (r2 fGt (rVar 4) (rC (.int 12))))
  (wRaise ABadClaim ["word"] (rCons (rC (.int 0)) rNil))
  wNext)
  (wRetF (rVar 3))))))))))))
/-- def format_claim(claim), slots 0:claim 1:words 2:waiting 3:part; calls  -/
def w_format_claim : RS := (wSeq (wSet 1 (rLst rNil))
  (wSeq (wSet 2 (rLst (rCons (rVar 0) rNil)))
  (wSeq (wWhile (rTruO 2)
  (wSeq (wPop 2 (rgName 3))
  (wIf (rT (Pu.r1 (fIsi "str") (rVar 3)))
  (wApp 1 (rVar 3))
  (wExt 2 (Pu.r1 fRev (rCall fList (rCons (rVar 3) rNil)))))))
  (wFrz 1 (wRetF (rM1 fJoin (rC (.str " ")) (rVar 1)))))))
/-- def _law_cell(script, k), slots 0:script 1:k 2:seed 3:cell; calls  -/
def w_law_cell : RS := (wSeq (wIf (rT (r2 fLt (rVar 1) (rLenO 0)))
  (wRetF (r2 fMod (rCall fInt (rCons (rIxO 0 (rVar 1)) rNil)) (r2 fPow (rC (.int 10)) (rC (.int 60)))))
  wNext)
  (wSeq (wSet 2 (rC (.int 17)))
  (wSeq (wFor (riSeq (rSlice (rVar 0) roNo (roSo (rC (.int 63))))) (rgName 3)
  (wSet 2 (r2 fMod (rCall fInt (rCons (r2 fAdd (r2 fMulA (rVar 2) (rC (.int 31))) (r2 fMod (rCall fInt (rCons (rVar 3) rNil)) (rC (.int 1000003)))) rNil)) (rC (.int 1000003)))))
  (wRetF (r2 fMod (rCall fInt (rCons (r2 fMulA (r2 fMulA (r2 fAdd (rVar 2) (rC (.int 7))) (r2 fAdd (rVar 1) (rC (.int 3)))) (rC (.int 69621))) rNil)) (rC (.int 2147483647)))))))
/-- def _law_digits(cell, sizes), slots 0:cell 1:sizes 2:row 3:rest 4:seed 5:k 6:size 7:twice; calls  -/
def w_law_digits : RS := (wSeq (wSet 2 (rLst rNil))
  (wSeq (wSet 3 (r2 fMod (rCall fInt (rCons (rVar 0) rNil)) (r2 fPow (rC (.int 10)) (rC (.int 60)))))
  (wSeq (wIf (rT (r2 fGe (rVar 3) (r2 fPow (rC (.int 10)) (rC (.int 18)))))
  (wSeq (wSet 3 (r2 fSub (rVar 3) (r2 fPow (rC (.int 10)) (rC (.int 18)))))
  (wSeq (wFor (riSeq (rVar 1)) (rgName 6)
  (wSeq (wApp 2 (r2 fMod (rCall fInt (rCons (rVar 3) rNil)) (rVar 6)))
  (wSet 3 (r2 fDiv (rCall fInt (rCons (rVar 3) rNil)) (rVar 6)))))
  (wFrz 2 (wRetF (rVar 2)))))
  wNext)
  (wSeq (wSet 4 (r2 fMod (rCall fInt (rCons (rVar 3) rNil)) (rC (.int 2147483629))))
  (wSeq (wFor (riR1 (rLenO 1)) (rgName 5)
  (wSeq (wSet 4 (r2 fMod (rCall fInt (rCons (r2 fAdd (r2 fAdd (r2 fMulA (rVar 4) (rC (.int 48271))) (r2 fMulA (rC (.int 974711)) (rVar 5))) (rC (.int 12345))) rNil)) (rC (.int 2147483647))))
  (wSeq (wSet 7 (r2 fMod (rCall fInt (rCons (r2 fMulA (rVar 4) (r2 fAdd (r2 fDiv (rVar 4) (rC (.int 65537))) (rC (.int 3)))) rNil)) (rC (.int 2147483629))))
  (wApp 2 (r2 fMod (r2 fDiv (rVar 7) (rC (.int 19))) (rIxO 1 (rVar 5)))))))
  (wFrz 2 (wRetF (rVar 2))))))))
/-- def _law_names(digit, count), slots 0:digit 1:count 2:menu 3:more 4:pool 5:place 6:size 7:k 8:sign; calls  -/
def w_law_names : RS := (wSeq (wSet 2 (rLst (rCons (rC (.str "k7")) (rCons (rC (.str "zed")) (rCons (rC (.str "a")) (rCons (rC (.str "mill2")) (rCons (rC (.str "q")) (rCons (rC (.str "bay")) (rCons (rC (.str "wind")) (rCons (rC (.str "c10")) (rCons (rC (.str "tor")) (rCons (rC (.str "x")) (rCons (rC (.str "ebb")) (rCons (rC (.str "rain4")) rNil))))))))))))))
  (wSeq (wSet 3 (rLst (rCons (rC (.str "fog")) (rCons (rC (.str "h")) (rCons (rC (.str "lamp9")) (rCons (rC (.str "ox")) (rCons (rC (.str "dune")) (rCons (rC (.str "v3")) (rCons (rC (.str "silt")) (rCons (rC (.str "j")) (rCons (rC (.str "nut")) (rCons (rC (.str "gale")) (rCons (rC (.str "p2p")) (rCons (rC (.str "yew")) rNil))))))))))))))
  (wSeq (wFrz 3 (wFrz 2 (wSet 4 (r2 fAdd (rVar 2) (rVar 3)))))
  (wSeq (wIf (rT (r2 fEq (r2 fMod (rVar 0) (rC (.int 4))) (rC (.int 2))))
  (wSeq (wSet 5 (rCall fInt (rCons (r2 fDiv (rVar 0) (rC (.int 4))) rNil)))
  (wSeq (wSet 6 (r2 fAdd (r2 fAdd (rVar 5) (rC (.int 1))) (r2 fMod (rCall fInt (rCons (r2 fDiv (rVar 0) (rC (.int 2))) rNil)) (r2 fSub (rC (.int 8)) (rVar 5)))))
  (wSet 4 (rLc (riStr (rC (.str "mqtwhxyrdefgijlnopsuvkbz"))) (rgName 8) rYes (r2 fAdd (r2 fAdd (rSlice (rC (.str "c4bz0a9k")) roNo (roSo (rVar 5))) (rVar 8)) (rSlice (rC (.str "c4bz0a9k")) (roSo (r2 fAdd (rVar 5) (rC (.int 1)))) (roSo (rVar 6)))) [8]))))
  wNext)
  (wSeq (wIf (rT (r2 fEq (r2 fMod (rVar 0) (rC (.int 4))) (rC (.int 3))))
  (wSet 4 (rLc (riR1 (rC (.int 24))) (rgName 7) rYes (r2 fAdd (r2 fIx (rC (.str "hpv")) (r2 fDiv (rVar 7) (rC (.int 8)))) (r2 fMulA (rC (.str "o")) (r2 fMod (rVar 7) (rC (.int 8))))) [7]))
  wNext)
  (wRetF (rLc (riR1 (rVar 1)) (rgName 7) rYes (rIxO 4 (r2 fMod (rCall fInt (rCons (r2 fAdd (rVar 0) (r2 fMulA (rC (.int 5)) (rVar 7))) rNil)) (rC (.int 24)))) [7])))))))
/-- def _law_atom(row, at, names), slots 0:row 1:at 2:names 3:kind 4:one 5:other; calls  -/
def w_law_atom : RS := (wSeq (wSet 3 (r2 fIx (rLst (rCons (rC (.str "look")) (rCons (rC (.str "answer")) (rCons (rC (.str "want")) (rCons (rC (.str "hold")) (rCons (rC (.str "use")) (rCons (rC (.str "hang")) (rCons (rC (.str "kept")) rNil)))))))) (r2 fMod (rCall fInt (rCons (rIxO 0 (rVar 1)) rNil)) (rC (.int 7)))))
  (wSeq (wSet 4 (rIxO 2 (r2 fMod (rCall fInt (rCons (rIxO 0 (r2 fAdd (rVar 1) (rC (.int 1)))) rNil)) (rLenO 2))))
  (wSeq (wSet 5 (rIxO 2 (r2 fMod (rCall fInt (rCons (rIxO 0 (r2 fAdd (rVar 1) (rC (.int 2)))) rNil)) (rLenO 2))))
  (wRetF (rLst (rCons (rTup (rCons (rVar 3) (rCons (rVar 4) (rCons (rVar 5) rNil)))) (rCons (rLst (rCons (rVar 3) (rCons (rVar 4) (rCons (rVar 5) rNil)))) rNil)))))))
/-- def _law_claim(row, names, many, most, deep), slots 0:row 1:names 2:many 3:most 4:deep 5:found 6:k 7:at 8:word 9:more 10:fresh 11:tail 12:head; calls _law_atom -/
def w_law_claim : RS := (wSeq (wSet 5 (r2 fAdd (rFn φ_law_atom (rCons (rVar 0) (rCons (rC (.int 0)) (rCons (rVar 1) rNil)))) (rLst (rCons (rC (.int 1)) rNil))))
  (wSeq (wFor (riR1 (rVar 2)) (rgName 6)
  (wSeq (wSet 7 (r2 fAdd (rC (.int 3)) (r2 fMulA (rC (.int 4)) (rVar 6))))
  (wSeq (wSet 8 (r2 fIx (rLst (rCons (rC (.str "not")) (rCons (rC (.str "and")) (rCons (rC (.str "or")) (rCons (rC (.str "with")) (rCons (rC (.str "without")) (rCons (rC (.str "and")) rNil))))))) (r2 fMod (rCall fInt (rCons (rIxO 0 (rVar 7)) rNil)) (rC (.int 6)))))
  (wSeq (wSet 9 (rFn φ_law_atom (rCons (rVar 0) (rCons (r2 fAdd (rVar 7) (rC (.int 1))) (rCons (rVar 1) rNil)))))
  (wSeq (wIf (rT (r2 fEq (rVar 8) (rC (.str "not"))))
  (wSet 10 (rLst (rCons (rTup (rCons (rC (.str "not")) (rCons (rIxO 5 (rC (.int 0))) rNil))) (rCons (r2 fAdd (rLst (rCons (rC (.str "not")) rNil)) (rIxO 5 (rC (.int 1)))) (rCons (r2 fAdd (rIxO 5 (rC (.int 2))) (rC (.int 1))) rNil)))))
  (wIf (rT (r2 (fInB false) (rVar 8) (rLst (rCons (rC (.str "and")) (rCons (rC (.str "or")) rNil)))))
  (wIf (rT (r2 fEq (r2 fMod (rIxO 0 (r2 fAdd (rVar 7) (rC (.int 1)))) (rC (.int 2))) (rC (.int 0))))
  (wSet 10 (rLst (rCons (rTup (rCons (rVar 8) (rCons (rIxO 5 (rC (.int 0))) (rCons (rIxO 9 (rC (.int 0))) rNil)))) (rCons (r2 fAdd (r2 fAdd (rLst (rCons (rVar 8) rNil)) (rIxO 5 (rC (.int 1)))) (rIxO 9 (rC (.int 1)))) (rCons (r2 fAdd (rIxO 5 (rC (.int 2))) (rC (.int 1))) rNil)))))
  (wSet 10 (rLst (rCons (rTup (rCons (rVar 8) (rCons (rIxO 9 (rC (.int 0))) (rCons (rIxO 5 (rC (.int 0))) rNil)))) (rCons (r2 fAdd (r2 fAdd (rLst (rCons (rVar 8) rNil)) (rIxO 9 (rC (.int 1)))) (rIxO 5 (rC (.int 1)))) (rCons (r2 fAdd (rIxO 5 (rC (.int 2))) (rC (.int 1))) rNil))))))
  (wSeq (wSet 11 (rIxO 1 (r2 fMod (rCall fInt (rCons (rIxO 0 (r2 fAdd (rVar 7) (rC (.int 2)))) rNil)) (rLenO 1))))
  (wSeq (wSet 12 (rIxO 1 (r2 fMod (rCall fInt (rCons (rIxO 0 (r2 fAdd (rVar 7) (rC (.int 3)))) rNil)) (rLenO 1))))
  (wSet 10 (rLst (rCons (rTup (rCons (rVar 8) (rCons (rVar 11) (rCons (rVar 12) (rCons (rIxO 5 (rC (.int 0))) rNil))))) (rCons (r2 fAdd (rLst (rCons (rVar 8) (rCons (rVar 11) (rCons (rVar 12) rNil)))) (rIxO 5 (rC (.int 1)))) (rCons (r2 fAdd (rIxO 5 (rC (.int 2))) (rC (.int 1))) rNil)))))))))
  (wIf (rAnd (rT (r2 fLe (rCall fLen (rCons (rIxO 10 (rC (.int 1))) rNil)) (rVar 3))) (rT (r2 fLe (rIxO 10 (rC (.int 2))) (rVar 4))))
  (wFrz 10 (wSet 5 (rVar 10)))
  wNext))))))
  (wFrz 5 (wRetF (rVar 5)))))
/-- def _law_fault(text), slots 0:text 1:e; calls parse_claim -/
def w_law_fault (K : PySem.W.Frag) (ABadClaim ACareError ABadLine ABadNode : Addr) : RS := (wSeq (wTry (wDrop (rFn (φ_parse_claim ABadClaim) (rCons (rVar 0) rNil))) (hNamed K 1 (.ref ABadClaim) (fun a c d => (wSeq (wIf (rOr (rNot (rT (rXi K 1 a c d ABadClaim ACareError))) (rT (rXi2 K 1 a c d ABadClaim ABadLine ABadNode)))
  (wRetF (rTup (rCons (rC (.str "refused")) (rCons (rC (.int 1)) rNil))))
  wNext)
  (wRetF (rXf 1 a c d ABadClaim "word")))) (hPlain K (.ref ACareError) (fun a c d => (wRetF (rTup (rCons (rC (.str "refused")) (rCons (rC (.int 2)) rNil))))) hNil)))
  (wRetF (rTup (rCons (rC (.str "refused")) (rCons (rC (.int 0)) rNil)))))
/-- def _law_places(words), slots 0:words 1:heads 2:at 3:turn; calls  -/
def w_law_places : RS := (wSeq (wSet 1 (rLst rNil))
  (wSeq (wSet 2 (rC (.int 0)))
  (wSeq (wFor (riR1 (rC (.int 100))) (rgName 3)
  (wSeq (wIf (rT (r2 fGe (rVar 2) (rLenO 0)))
  wBrk
  wNext)
  (wSeq (wApp 1 (rVar 2))
  (wIf (rT (r2 (fInB false) (rIxO 0 (rVar 2)) (rLst (rCons (rC (.str "not")) (rCons (rC (.str "and")) (rCons (rC (.str "or")) rNil))))))
  (wSet 2 (r2 fAdd (rVar 2) (rC (.int 1))))
  (wSet 2 (r2 fAdd (rVar 2) (rC (.int 3))))))))
  (wFrz 1 (wRetF (rVar 1))))))
/-- def _law_listed(claim), slots 0:claim 1:rows 2:part; calls _law_listed -/
def w_law_listed (n : Nat) : RS := (wSeq (wSet 1 (rLst rNil))
  (wSeq (wFor (riSeq (rVar 0)) (rgName 2)
  (wIf (rT (Pu.r1 (fIsi "tuple") (rVar 2)))
  (wApp 1 (rFn (φ_law_listed n) (rCons (rVar 2) rNil)))
  (wApp 1 (rVar 2))))
  (wFrz 1 (wRetF (rVar 1)))))
/-- def _law_two(left, row, names, many, word), slots 0:left 1:row 2:names 3:many 4:word 5:right; calls _law_claim -/
def w_law_two : RS := (wSeq (wIf (rOr (rT (r2 fEq (rVar 4) (rC (.str "not")))) (rOr (rT (r2 fGt (rIxO 0 (rC (.int 2))) (rC (.int 11)))) (rT (r2 fGt (rCall fLen (rCons (rIxO 0 (rC (.int 1))) rNil)) (rC (.int 56))))))
  (wRetF (rVar 0))
  wNext)
  (wSeq (wSet 5 (rFn φ_law_claim (rCons (rVar 1) (rCons (rVar 2) (rCons (rVar 3) (rCons (r2 fSub (rC (.int 59)) (rCall fLen (rCons (rIxO 0 (rC (.int 1))) rNil))) (rCons (rC (.int 11)) rNil)))))))
  (wRetF (rLst (rCons (rTup (rCons (rVar 4) (rCons (rIxO 0 (rC (.int 0))) (rCons (rIxO 5 (rC (.int 0))) rNil)))) (rCons (r2 fAdd (r2 fAdd (rLst (rCons (rVar 4) rNil)) (rIxO 0 (rC (.int 1)))) (rIxO 5 (rC (.int 1)))) (rCons (r2 fAdd (rC (.int 1)) (rCall fMax (rCons (rIxO 0 (rC (.int 2))) (rCons (rIxO 5 (rC (.int 2))) rNil)))) rNil)))))))
/-- def _law_deep(words, many), slots 0:words 1:many 2:k; calls  -/
def w_law_deep : RS := (wRetF (r2 fAdd (rLc (riR1 (rVar 1)) (rgName 2) rYes (rC (.str "not")) [2]) (rVar 0)))
/-- def _law_is_tuples(claim), slots 0:claim 1:todo 2:turn 3:part 4:each; calls  -/
def w_law_is_tuples : RS := (wSeq (wSet 1 (rLst (rCons (rVar 0) rNil)))
  (wSeq (wFor (riR1 (rC (.int 200))) (rgName 2)
  (wSeq (wIf (rT (r2 fEq (rLenO 1) (rC (.int 0))))
  (wRetF (rC (.bl true)))
  wNext)
  (wSeq (wPop 1 (rgName 3))
  (wIf (rT (Pu.r1 (fIsi "tuple") (rVar 3)))
  (wFrz 1 (wSet 1 (r2 fAdd (rVar 1) (rLc (riSeq (rVar 3)) (rgName 4) rYes (rVar 4) [4]))))
  (wIf (rNot (rT (Pu.r1 (fIsi "str") (rVar 3))))
  (wRetF (rC (.bl false)))
  wNext)))))
  (wRetF (rC (.bl false)))))
/-- def law(script), slots 0:script 1:row 2:draw 3:more 4:names 5:drawn 6:words 7:text 8:told 9:heads 10:at 11:bad 12:spots 13:spot 14:wrong 15:cut 16:short 17:deep 18:long 19:whole 20:k; calls _law_cell _law_claim _law_deep _law_digits _law_fault _law_is_tuples _law_listed _law_names _law_places _law_two format_claim parse_claim -/
def w_law (ABadClaim : Addr) : RS := (wSeq (wSet 1 (rFn φ_law_digits (rCons (rFn φ_law_cell (rCons (rVar 0) (rCons (rC (.int 0)) rNil))) (rCons (rLst (rCons (rC (.int 24)) (rCons (rC (.int 13)) (rCons (rC (.int 8)) (rCons (rC (.int 97)) (rCons (rC (.int 89)) (rCons (rC (.int 60)) (rCons (rC (.int 12)) (rCons (rC (.int 13)) (rCons (rC (.int 3)) rNil)))))))))) rNil))))
  (wSeq (wSet 2 (rFn φ_law_digits (rCons (rFn φ_law_cell (rCons (rVar 0) (rCons (rC (.int 1)) rNil))) (rCons (r2 fAdd (rLst (rCons (rC (.int 7)) (rCons (rC (.int 12)) (rCons (rC (.int 12)) rNil)))) (r2 fMulA (rLst (rCons (rC (.int 42)) (rCons (rC (.int 42)) (rCons (rC (.int 12)) (rCons (rC (.int 12)) rNil))))) (rC (.int 12)))) rNil))))
  (wSeq (wSet 3 (rFn φ_law_digits (rCons (rFn φ_law_cell (rCons (rVar 0) (rCons (rC (.int 2)) rNil))) (rCons (r2 fAdd (rLst (rCons (rC (.int 7)) (rCons (rC (.int 12)) (rCons (rC (.int 12)) rNil)))) (r2 fMulA (rLst (rCons (rC (.int 42)) (rCons (rC (.int 42)) (rCons (rC (.int 12)) (rCons (rC (.int 12)) rNil))))) (rC (.int 12)))) rNil))))
  (wSeq (wSet 4 (r2 fAdd (rFn φ_law_names (rCons (rIxO 1 (rC (.int 0))) (rCons (rC (.int 8)) rNil))) (rLst (rCons (rC (.str "not")) (rCons (rC (.str "hang")) (rCons (rC (.str "abcdefgh")) (rCons (rC (.str "with")) rNil)))))))
  (wSeq (wFrz 4 (wSet 5 (rFn φ_law_two (rCons (rFn φ_law_claim (rCons (rVar 2) (rCons (rVar 4) (rCons (rIxO 1 (rC (.int 1))) (rCons (rC (.int 60)) (rCons (rC (.int 12)) rNil)))))) (rCons (rVar 3) (rCons (rVar 4) (rCons (rIxO 1 (rC (.int 7))) (rCons (r2 fIx (rLst (rCons (rC (.str "and")) (rCons (rC (.str "or")) (rCons (rC (.str "not")) rNil)))) (rIxO 1 (rC (.int 8)))) rNil))))))))
  (wSeq (wSet 6 (rIxO 5 (rC (.int 1))))
  (wSeq (wSet 7 (rM1 fJoin (rC (.str " ")) (rVar 6)))
  (wSeq (wSet 8 (rFn (φ_parse_claim ABadClaim) (rCons (rVar 7) rNil)))
  (wSeq (wIf (rOr (rT (r2 fNe (rVar 8) (rIxO 5 (rC (.int 0))))) (rOr (rNot (rT (rFn φ_law_is_tuples (rCons (rVar 8) rNil)))) (rT (r2 fNe (rFn φ_format_claim (rCons (rIxO 5 (rC (.int 0))) rNil)) (rVar 7)))))
  (wRetF (rC (.bl false)))
  wNext)
  (wSeq (wIf (rOr (rT (r2 fNe (rFn φ_format_claim (rCons (rVar 8) rNil)) (rVar 7))) (rT (r2 fNe (rFn φ_format_claim (rCons (rFn (φ_law_listed 12) (rCons (rIxO 5 (rC (.int 0))) rNil)) rNil)) (rVar 7))))
  (wRetF (rC (.bl false)))
  wNext)
  (wSeq (wSet 9 (rFn φ_law_places (rCons (rVar 6) rNil)))
  (wSeq (wSet 10 (rIxO 9 (r2 fMod (rCall fInt (rCons (rIxO 1 (rC (.int 3))) rNil)) (rLenO 9))))
  (wSeq (wSet 11 (r2 fIx (rLst (rCons (rC (.str "Look")) (rCons (rC (.str "xx")) (rCons (rC (.str "kep")) (rCons (rC (.str "wit")) (rCons (rC (.str "looks")) (rCons (rC (.str "0")) (rCons (rC (.str ":")) (rCons (rC (.str "Hang")) rNil))))))))) (rIxO 1 (rC (.int 2)))))
  (wSeq (wIf (rT (r2 fNe (rFn (φ_law_fault ABadClaim) (rCons (rM1 fJoin (rC (.str " ")) (r2 fAdd (r2 fAdd (rSlice (rVar 6) roNo (roSo (rVar 10))) (rLst (rCons (rVar 11) rNil))) (rSlice (rVar 6) (roSo (r2 fAdd (rVar 10) (rC (.int 1)))) roNo))) rNil)) (r2 fAdd (rVar 10) (rC (.int 1)))))
  (wRetF (rC (.bl false)))
  wNext)
  (wSeq (wSet 12 (rLc (riR1 (rLenO 6)) (rgName 20) (rT (rInO true (rVar 20) 9)) (rVar 20) [20]))
  (wSeq (wSet 13 (rIxO 12 (r2 fMod (rCall fInt (rCons (rIxO 1 (rC (.int 4))) rNil)) (rLenO 12))))
  (wSeq (wSet 14 (r2 fIx (rLst (rCons (rC (.str "Zz")) (rCons (rC (.str "9a")) (rCons (rC (.str "abcdefghi")) (rCons (rC (.str "a_b")) (rCons (rC (.str "aB")) (rCons (rC (.str "a.")) (rCons (rC (.str "0")) (rCons (rC (.str "x9Y")) rNil))))))))) (rIxO 1 (rC (.int 2)))))
  (wSeq (wIf (rT (r2 fNe (rFn (φ_law_fault ABadClaim) (rCons (rM1 fJoin (rC (.str " ")) (r2 fAdd (r2 fAdd (rSlice (rVar 6) roNo (roSo (rVar 13))) (rLst (rCons (rVar 14) rNil))) (rSlice (rVar 6) (roSo (r2 fAdd (rVar 13) (rC (.int 1)))) roNo))) rNil)) (r2 fAdd (rVar 13) (rC (.int 1)))))
  (wRetF (rC (.bl false)))
  wNext)
  (wSeq (wSet 15 (r2 fMod (rCall fInt (rCons (rIxO 1 (rC (.int 5))) rNil)) (rLenO 6)))
  (wSeq (wSet 16 (rM1 fJoin (rC (.str " ")) (rSlice (rVar 6) roNo (roSo (rVar 15)))))
  (wSeq (wIf (rT (r2 fNe (rFn (φ_law_fault ABadClaim) (rCons (rVar 16) rNil)) (r2 fAdd (rVar 15) (rC (.int 1)))))
  (wRetF (rC (.bl false)))
  wNext)
  (wSeq (wIf (rAnd (rT (r2 fLt (rLenO 6) (rC (.int 60)))) (rT (r2 fNe (rFn (φ_law_fault ABadClaim) (rCons (r2 fAdd (r2 fAdd (rVar 7) (rC (.str " "))) (rIxO 6 (rC (.int 0)))) rNil)) (r2 fAdd (rLenO 6) (rC (.int 1))))))
  (wRetF (rC (.bl false)))
  wNext)
  (wSeq (wIf (rOr (rT (r2 fNe (rFn (φ_law_fault ABadClaim) (rCons (r2 fAdd (rVar 7) (rC (.str " "))) rNil)) (rC (.int 0)))) (rOr (rT (r2 fNe (rFn (φ_law_fault ABadClaim) (rCons (r2 fAdd (rC (.str " ")) (rVar 7)) rNil)) (rC (.int 0)))) (rT (r2 fNe (rFn (φ_law_fault ABadClaim) (rCons (rRep1 " " "  " (rVar 7)) rNil)) (rC (.int 0))))))
  (wRetF (rC (.bl false)))
  wNext)
  (wSeq (wIf (rOr (rT (r2 fNe (rFn (φ_law_fault ABadClaim) (rCons (r2 fAdd (rVar 7) (rC (.str "\n"))) rNil)) (rLenO 6))) (rOr (rT (r2 fNe (rFn (φ_law_fault ABadClaim) (rCons (rRep1 " " "\n" (rVar 7)) rNil)) (rC (.int 1)))) (rT (r2 fNe (rFn (φ_law_fault ABadClaim) (rCons (rC (.str " ")) rNil)) (rC (.int 0))))))
  (wRetF (rC (.bl false)))
  wNext)
  (wSeq (wSet 17 (rFn φ_law_deep (rCons (rVar 6) (rCons (r2 fSub (rC (.int 12)) (rIxO 5 (rC (.int 2)))) rNil))))
  (wSeq (wIf (rT (r2 fLe (rLenO 17) (rC (.int 60))))
  (wSeq (wSet 19 (rFn (φ_parse_claim ABadClaim) (rCons (rM1 fJoin (rC (.str " ")) (rVar 17)) rNil)))
  (wSeq (wIf (rT (r2 fNe (rFn φ_format_claim (rCons (rVar 19) rNil)) (rM1 fJoin (rC (.str " ")) (rVar 17))))
  (wRetF (rC (.bl false)))
  wNext)
  (wSeq (wSet 3 (rFn φ_law_deep (rCons (rVar 17) (rCons (r2 fAdd (rC (.int 1)) (r2 fMod (rIxO 1 (rC (.int 6))) (rC (.int 3)))) rNil))))
  (wIf (rT (r2 fLe (rLenO 3) (rC (.int 60))))
  (wSeq (wIf (rOr (rT (r2 fNe (rFn (φ_law_fault ABadClaim) (rCons (rM1 fJoin (rC (.str " ")) (rVar 3)) rNil)) (rC (.int 0)))) (rT (r2 fNe (rFn (φ_law_fault ABadClaim) (rCons (rM1 fJoin (rC (.str " ")) (rSlice (rVar 3) roNo (roSo (Pu.r1 fNeg (rC (.int 1)))))) rNil)) (rLenO 3))))
  (wRetF (rC (.bl false)))
  wNext)
  (wIf (rAnd (rT (r2 fLt (rLenO 3) (rC (.int 60)))) (rT (r2 fNe (rFn (φ_law_fault ABadClaim) (rCons (rM1 fJoin (rC (.str " ")) (r2 fAdd (rVar 3) (rLst (rCons (rC (.str "x")) rNil)))) rNil)) (r2 fAdd (rLenO 3) (rC (.int 1))))))
  (wRetF (rC (.bl false)))
  wNext))
  wNext))))
  wNext)
  (wSeq (wSet 18 (rFn φ_law_deep (rCons (rVar 6) (rCons (r2 fSub (rC (.int 61)) (rLenO 6)) rNil))))
  (wRetF (rAndV (r2 fEq (rFn (φ_law_fault ABadClaim) (rCons (rM1 fJoin (rC (.str " ")) (rVar 18)) rNil)) (rC (.int 0))) (rAndV (r2 fEq (rFn (φ_law_fault ABadClaim) (rCons (rM1 fJoin (rC (.str " ")) (r2 fAdd (rSlice (rVar 18) roNo (roSo (Pu.r1 fNeg (rC (.int 1))))) (rLst (rCons (rC (.str "Zz")) rNil)))) rNil)) (rC (.int 0))) (r2 fEq (rFn (φ_law_fault ABadClaim) (rCons (rC (.str "")) rNil)) (rC (.int 1)))))))))))))))))))))))))))))))))
end K90
set_option Elab.async false
set_option linter.all false
set_option maxRecDepth 100000
set_option maxHeartbeats 2000000
namespace K90
open PySem PySem.Spec PyProof.Rows L2 Pu
theorem len_list (s : Str) : s.length = s.cps.toList.length := by simp [Str.length]
theorem ok_is_name : ∀ ds q x, φ_is_name ds q x → w_is_name { nx := fun _ => q (.fz .non), rt := fun s _ => q s } (fun c fs _ => x c fs) (start 2 ds) := by
  intro ds q x h
  obtain ⟨s, rfl, hs, hq⟩ := h
  simp [w_is_name, hs, small_size hs, -Array.getElem?_toList, -Array.getLast?_toList]
  have hl := len_list s
  unfold isName at hq
  cases he : s.cps.toList with
  | nil =>
    rw [he] at hl hq
    rw [if_pos (by simp at hl; omega)]
    exact hq
  | cons c r =>
    rw [he] at hl hq
    dsimp only at hq
    rw [if_neg (by simp at hl; omega)]
    by_cases h8 : r.length ≤ 7
    · rw [if_neg (by simp at hl; omega)]
      refine ⟨c, rfl, ?_⟩
      have hc : (c ∈ (Str.ofString "abcdefghijklmnopqrstuvwxyz").cps) ↔ c ∈ signL := by unfold signL; simp
      by_cases hm : c ∈ signL
      · rw [if_pos (hc.mpr hm)]
        refine lc_map (f := fun d => match d with | .str ⟨a⟩ => .bl (decide (a.toList.headD 0 ∈ signS)) | _ => .non) [] (fun d hd k hk => ?_) (by simp; omega) ?_
        · obtain ⟨a, ha, rfl⟩ := List.mem_map.mp hd
          simp
          refine hk _ ?_
          simp [signS]
        · refine ⟨(c :: r).map fun a => decide (a ∈ signS), ?_, ?_⟩
          · rw [List.nil_append, List.map_map, List.map_map]
            exact List.map_congr_left fun a _ => rfl
          · rw [decide_eq_true h8, decide_eq_true hm] at hq
            simp only [Bool.true_and] at hq
            simpa using hq
      · rw [if_neg (fun z => hm (hc.mp z))]
        rw [decide_eq_false hm] at hq
        simpa using hq
    · rw [if_pos (by simp at hl; omega)]
      rw [decide_eq_false h8] at hq
      simpa using hq
theorem str1 (c : Nat) : (({ cps := #[c] } : Str) = Str.ofString " ") ↔ c = 32 := by
  rw [sp_1]
  simp
theorem ok_is_spaced : ∀ ds q x, φ_is_spaced ds q x → w_is_spaced { nx := fun _ => q (.fz .non), rt := fun s _ => q s } (fun c fs _ => x c fs) (start 1 ds) := by
  intro ds q x h
  obtain ⟨s, rfl, hs, hq⟩ := h
  simp [w_is_spaced, small_size hs, str1, -Array.getElem?_toList, -Array.getLast?_toList]
  unfold isSpaced at hq
  cases he : s.cps.toList with
  | nil =>
    have : s = Str.ofString "" := by
      rw [sp_e]
      cases s
      simp at he
      simp [he]
    rw [if_pos this]
    rw [he] at hq
    exact hq
  | cons c r =>
    rw [he] at hq
    dsimp only at hq
    have : s ≠ Str.ofString "" := by
      rw [sp_e]
      intro z
      rw [z] at he
      simp at he
    rw [if_neg this]
    refine ⟨c, rfl, ?_⟩
    by_cases h1 : c = 32
    · rw [if_pos h1]
      simpa [h1] using hq
    · rw [if_neg h1]
      refine ⟨(c :: r).getLast (by simp), by rw [List.getLast?_eq_some_getLast], ?_⟩
      by_cases h2 : (c :: r).getLast (by simp) = 32
      · rw [if_pos h2]
        rw [decide_eq_true h1, decide_eq_false (fun z => z h2)] at hq
        simpa using hq
      · rw [if_neg h2]
        rw [decide_eq_true h1, decide_eq_true h2] at hq
        simpa using hq
theorem hold_lookup (w : Str) : (kvHOLDING.lookup w).isSome = isHold w := rfl
theorem ok_first_word (C : Addr) : ∀ ds q x, φ_first_word C ds q x → w_first_word C { nx := fun _ => q (.fz .non), rt := fun s _ => q s } (fun c fs _ => x c fs) (start 2 ds) := by
  intro ds q x h
  obtain ⟨ws, a, rfl, h1, h2, hq⟩ := h
  simp [w_first_word, W, dNAMED]
  unfold firstWord at hq
  by_cases ha : ws.length ≤ a
  · rw [if_pos ha]
    rw [List.getElem?_eq_none ha] at hq
    exact hq
  · rw [if_neg ha]
    have hw : ws[a]? = some ws[a] := List.getElem?_eq_getElem (by omega)
    rw [hw] at hq ⊢
    simp
    dsimp only at hq
    by_cases hn : ws[a] ∈ named
    · rw [if_pos hn]
      have : (isNamed ws[a] || isHold ws[a]) = true := by unfold isNamed; simp [hn]
      rw [if_pos this] at hq
      exact hq
    · rw [if_neg hn, hold_lookup]
      have e : isNamed ws[a] = false := by unfold isNamed; simp [hn]
      rw [e, Bool.false_or] at hq
      cases hh : isHold ws[a] with
      | true =>
        rw [hh] at hq
        exact hq
      | false =>
        rw [hh] at hq
        exact hq
theorem range2 (a : Int) : rangeD a (a + 2) = [.int a, .int (a + 1)] := by
  unfold rangeD
  have : (a + 2 - a).toNat = 2 := by omega
  rw [this]
  simp [List.range_succ]
theorem range0 (a : Int) : rangeD a a = [] := by
  unfold rangeD
  simp
def hdBody (C : Addr) : RS := wSeq (wIf (rOr (rT (r2 fGe (rVar 4) (rLenO 0))) (rNot (rT (rFn φ_is_name (rCons (rIxO 0 (rVar 4)) rNil))))) (wRaise C ["word"] (rCons (r2 fAdd (rVar 4) (rC (.int 1))) rNil)) wNext) (wSet 2 (r2 fAdd (rVar 2) (rTup (rCons (rIxO 0 (rVar 4)) rNil))))
theorem head_step {C : Addr} {ws : List Str} {a p : Nat} {k : D} {hd : List D} {P : PEnds} {x : PX} (h3 : ∀ w ∈ ws, w.length ≤ 16777216) (hh : hd.length ≤ 10)
    (h : match nameAt ws p with | .error n => x (.ref C) [("word", .int n)] | .ok v => P.nx [some (.fz (W ws)), some (.fz (.int a)), some (.fz (.tup (hd ++ [.str v]))), some (.fz k), some (.fz (.int p))]) :
    hdBody C P (fun c fs _ => x c fs) [some (.fz (W ws)), some (.fz (.int a)), some (.fz (.tup hd)), some (.fz k), some (.fz (.int p))] := by
  unfold nameAt at h
  simp [hdBody, W]
  by_cases hp : ws.length ≤ p
  · rw [if_pos hp]
    rw [List.getElem?_eq_none hp] at h
    exact h
  · rw [if_neg hp]
    have hw : ws[p]? = some ws[p] := List.getElem?_eq_getElem (by omega)
    rw [hw] at h ⊢
    dsimp only at h
    refine ⟨.str ws[p], ⟨_, rfl, rfl⟩, ws[p], rfl, h3 _ (List.getElem_mem _), ?_⟩
    cases hn : isName ws[p] with
    | true =>
      rw [hn] at h
      simp
      refine ⟨small_size (by omega), h⟩
    | false =>
      rw [hn] at h
      simp
      exact h
theorem ok_claim_head (C : Addr) : ∀ ds q x, φ_claim_head C ds q x → w_claim_head C { nx := fun _ => q (.fz .non), rt := fun s _ => q s } (fun c fs _ => x c fs) (start 5 ds) := by
  intro ds q x h
  obtain ⟨ws, a, rfl, h1, h2, h3, hq⟩ := h
  simp [w_claim_head, W, dNAMED]
  refine ⟨ws, a, rfl, h1, h2, ?_⟩
  unfold claimHead at hq
  cases hf : firstWord ws a with
  | error n =>
    rw [hf] at hq
    exact hq
  | ok w =>
    rw [hf] at hq
    have hq' : ans C q x (Except.map (fun (p : List Str × Nat) => D.tup [D.tup (List.map D.str p.fst), D.int ↑p.snd]) (if isNamed w = true then (do
          let a_1 ← nameAt ws (a + 1)
          let b ← nameAt ws (a + 2)
          pure ([w, a_1, b], a + 3)) else pure ([w], a + 1))) := hq
    simp [ans, Except.map, range2, range0]
    by_cases hn : w ∈ named
    · rw [if_pos hn]
      have e : isNamed w = true := by unfold isNamed; simp [hn]
      rw [if_pos e] at hq'
      refine ⟨by omega, ?_⟩
      have e1 : (a : Int) + 1 = ((a + 1 : Nat) : Int) := by omega
      have e2 : (a : Int) + 1 + 1 = ((a + 2 : Nat) : Int) := by omega
      rw [e2, e1]
      refine head_step (p := a + 1) h3 (by simp) ?_
      cases hb : nameAt ws (a + 1) with
      | error n =>
        rw [hb] at hq'
        exact hq'
      | ok b =>
        rw [hb] at hq'
        refine head_step (p := a + 2) h3 (by simp) ?_
        cases hc : nameAt ws (a + 2) with
        | error n =>
          rw [hc] at hq'
          exact hq'
        | ok c =>
          rw [hc] at hq'
          simp [loopF]
          have e3 : (a : Int) + 1 + 2 = ((a + 3 : Nat) : Int) := by omega
          rw [e3]
          exact hq'
    · rw [if_neg hn]
      have e : isNamed w = false := by unfold isNamed; simp [hn]
      rw [e, if_neg Bool.false_ne_true] at hq'
      refine ⟨by omega, ?_⟩
      simp [loopF]
      exact hq'
end K90
set_option Elab.async false
set_option linter.all false
set_option maxRecDepth 100000
set_option maxHeartbeats 2000000
namespace K90
open PySem PySem.Spec PyProof.Rows L2 Pu
theorem fold_loop {cl : Option S} : ∀ (w : List Fr) (cs : List D) (s3 s4 s5 : Option S) (P : PEnds) (x : PXe), (∀ f ∈ w, f.1.length ≤ 3 ∧ f.2.2.length ≤ 3) → w.length ≤ 1000 →
    (∀ s3 s4 s5, P.nx [some (.ls false ((foldUp w (.tup cs)).2.map frD).reverse), cl, some (.fz ((foldUp w (.tup cs)).1.getD .non)), s3, s4, s5]) →
    loopW (rAnd (rTruO 0) (rT (r2 fNotN (rVar 2) (rC .non)))) (wSeq (wPop 0 (rgTup 3 (rgCons (rgName 4) (rgCons (rgName 5) (rgCons (rgName 3) rgNil)))))
  (wSeq (wSet 3 (r2 fAdd (rVar 3) (rTup (rCons (rVar 2) rNil))))
  (wSeq (wSet 2 (rC .non))
  (wIf (rT (r2 fEq (rLenO 3) (rVar 5)))
  (wSet 2 (r2 fAdd (rVar 4) (rVar 3)))
  (wApp 0 (rTup (rCons (rVar 4) (rCons (rVar 5) (rCons (rVar 3) rNil))))))))) P x (w.length + 1)
      [some (.ls false (w.map frD).reverse), cl, some (.fz (.tup cs)), s3, s4, s5]
  | [], cs, s3, s4, s5, P, x, _, _, hP => by
    simp [loopW]
    exact hP s3 s4 s5
  | (hd, n, inner) :: w, cs, s3, s4, s5, P, x, hw, hl, hP => by
    obtain ⟨h1, h2⟩ := hw _ List.mem_cons_self
    dsimp only at h1 h2
    unfold loopW
    simp [frD]
    refine ⟨small_size (by omega), ?_⟩
    unfold foldUp at hP
    by_cases hc : inner.length + 1 = n
    · rw [if_pos hc] at hP
      rw [if_pos (by omega)]
      refine ⟨small_size (by omega), ?_⟩
      have := fold_loop w (hd.map D.str ++ (inner ++ [.tup cs])) (some (.fz (.tup (inner ++ [.tup cs])))) (some (.fz (.tup (hd.map D.str)))) (some (.fz (.int n))) P x (fun f hf => hw f (List.mem_cons_of_mem _ hf)) (by simp at hl; omega) hP
      simpa [frD] using this
    · rw [if_neg hc] at hP
      rw [if_neg (by omega)]
      refine ⟨by simp at hl; omega, ?_⟩
      have hP' := hP (some (.fz (.tup (inner ++ [.tup cs])))) (some (.fz (.tup (hd.map D.str)))) (some (.fz (.int n)))
      simp [frD] at hP'
      simp [loopW]
      exact hP'
theorem ok_fold_up : ∀ ds0 ds q x, ψ_fold_up ds0 ds q x → w_fold_up { nx := fun _ => False, rt := fun s env => ∃ ds1, env[0]? = some (some (.ls false ds1)) ∧ q s.d ds1 } (fun c fs _ => x c fs) (startG 6 ds0 ds) := by
  intro ds0 ds q x h
  obtain ⟨w, hd, c, rfl, rfl, ⟨cs, rfl, hcs⟩, hl, hw, hq⟩ := h
  simp [w_fold_up]
  refine ⟨w.length + 1, ?_⟩
  refine fold_loop w cs none none none _ _ hw hl fun s3 s4 s5 => ?_
  simp
  exact hq
end K90
set_option Elab.async false
set_option linter.all false
set_option maxRecDepth 100000
set_option maxHeartbeats 2000000
namespace K90
open PySem PySem.Spec PyProof.Rows L2 Pu
theorem hold_val (h : Str) (hh : isHold h = true) : kvHOLDING.lookup h = some (.int (count h)) := by
  unfold isHold at hh
  unfold count
  have all : ∀ p ∈ kvHOLDING, ∃ n : Nat, p.2 = .int n := by
    intro p hp
    simp only [kvHOLDING, List.mem_cons, List.not_mem_nil, or_false] at hp
    rcases hp with rfl | rfl | rfl | rfl | rfl
    · exact ⟨1, rfl⟩
    · exact ⟨2, rfl⟩
    · exact ⟨2, rfl⟩
    · exact ⟨1, rfl⟩
    · exact ⟨1, rfl⟩
  have key : ∀ kv : List (Str × D), (∀ p ∈ kv, ∃ n : Nat, p.2 = .int n) → (kv.lookup h).isSome = true → ∃ n : Nat, kv.lookup h = some (.int n) := by
    intro kv
    induction kv with
    | nil => intro _ z; cases z
    | cons p kv ih =>
      intro hp hs
      rw [List.lookup_cons] at hs ⊢
      cases e : h == p.1 with
      | true =>
        obtain ⟨n, hn⟩ := hp p List.mem_cons_self
        exact ⟨n, by rw [← hn]⟩
      | false =>
        rw [e] at hs
        exact ih (fun p hp' => hp p (List.mem_cons_of_mem _ hp')) hs
  obtain ⟨n, hn⟩ := key _ all hh
  rw [hn]
  simp
theorem count_le (h : Str) : count h ≤ 2 := by
  unfold count
  have : ∀ kv : List (Str × D), (∀ p ∈ kv, ∃ n : Nat, p.2 = .int n ∧ n ≤ 2) → (match kv.lookup h with | some (.int n) => n.toNat | _ => 0) ≤ 2 := by
    intro kv
    induction kv with
    | nil => intro _; simp
    | cons p kv ih =>
      intro hp
      rw [List.lookup_cons]
      cases e : h == p.1 with
      | true =>
        obtain ⟨n, hn, h2⟩ := hp p List.mem_cons_self
        simp [hn]
        omega
      | false => exact ih fun p hp' => hp p (List.mem_cons_of_mem _ hp')
  refine this _ ?_
  intro p hp
  simp only [kvHOLDING, List.mem_cons, List.not_mem_nil, or_false] at hp
  rcases hp with rfl | rfl | rfl | rfl | rfl
  · exact ⟨1, rfl, by omega⟩
  · exact ⟨2, rfl, by omega⟩
  · exact ⟨2, rfl, by omega⟩
  · exact ⟨1, rfl, by omega⟩
  · exact ⟨1, rfl, by omega⟩
theorem count_pos (h : Str) (hh : isHold h = true) : 1 ≤ count h := by
  have e := hold_val h hh
  have : ∀ kv : List (Str × D), (∀ p ∈ kv, ∃ n : Nat, p.2 = .int n ∧ 1 ≤ n) → ∀ m : Nat, kv.lookup h = some (.int m) → 1 ≤ m := by
    intro kv
    induction kv with
    | nil => intro _ m z; cases z
    | cons p kv ih =>
      intro hp m hm
      rw [List.lookup_cons] at hm
      cases e : h == p.1 with
      | true =>
        rw [e] at hm
        obtain ⟨n, hn, h2⟩ := hp p List.mem_cons_self
        rw [hn] at hm
        simp at hm
        omega
      | false =>
        rw [e] at hm
        exact ih (fun p hp' => hp p (List.mem_cons_of_mem _ hp')) m hm
  refine this _ ?_ _ e
  intro p hp
  simp only [kvHOLDING, List.mem_cons, List.not_mem_nil, or_false] at hp
  rcases hp with rfl | rfl | rfl | rfl | rfl
  · exact ⟨1, rfl, by omega⟩
  · exact ⟨2, rfl, by omega⟩
  · exact ⟨2, rfl, by omega⟩
  · exact ⟨1, rfl, by omega⟩
  · exact ⟨1, rfl, by omega⟩
def Fok (f : Fr) : Prop := f.1.length ≤ 3 ∧ f.2.2.length < f.2.1 ∧ f.2.1 ≤ 2
theorem foldUp_ok : ∀ (w : List Fr) (c : List D), (∀ f ∈ w, Fok f) → (∀ f ∈ (foldUp w (.tup c)).2, Fok f) ∧ (foldUp w (.tup c)).2.length ≤ w.length ∧ ∀ d, (foldUp w (.tup c)).1 = some d → ∃ ds, d = .tup ds
  | [], c, _ => by
    unfold foldUp
    exact ⟨by simp, by simp, fun d h => ⟨c, (Option.some.inj h).symm⟩⟩
  | (hd, n, inner) :: w, c, hw => by
    unfold foldUp
    obtain ⟨h1, h2, h3⟩ := hw _ List.mem_cons_self
    dsimp only at h1 h2 h3
    by_cases hc : inner.length + 1 = n
    · rw [if_pos hc]
      obtain ⟨a, b, d⟩ := foldUp_ok w (hd.map D.str ++ (inner ++ [.tup c])) fun f hf => hw f (List.mem_cons_of_mem _ hf)
      exact ⟨a, by simp; omega, d⟩
    · rw [if_neg hc]
      refine ⟨fun f hf => ?_, by simp, fun d h => by cases h⟩
      rcases List.mem_cons.mp hf with rfl | hf
      · exact ⟨h1, by simp; omega, h3⟩
      · exact hw f (List.mem_cons_of_mem _ hf)
theorem nameAt_ok {ws : List Str} {p : Nat} {v : Str} (h : nameAt ws p = .ok v) : p < ws.length ∧ ws[p]? = some v ∧ isName v = true := by
  unfold nameAt at h
  cases e : ws[p]? with
  | none => rw [e] at h; cases h
  | some w =>
    rw [e] at h
    dsimp only at h
    split at h
    · cases h
      exact ⟨(List.getElem?_eq_some_iff.mp e).1, rfl, by assumption⟩
    · cases h
theorem firstWord_ok {ws : List Str} {p : Nat} {v : Str} (h : firstWord ws p = .ok v) : p < ws.length ∧ ws[p]? = some v := by
  unfold firstWord at h
  cases e : ws[p]? with
  | none => rw [e] at h; cases h
  | some w =>
    rw [e] at h
    dsimp only at h
    split at h
    · cases h
      exact ⟨(List.getElem?_eq_some_iff.mp e).1, rfl⟩
    · cases h
theorem claimHead_ok {ws : List Str} {a b : Nat} {hd : List Str} (h : claimHead ws a = .ok (hd, b)) : a < b ∧ b ≤ ws.length ∧ hd.length ≤ 3 ∧ ∃ h0 r, hd = h0 :: r := by
  unfold claimHead at h
  cases hf : firstWord ws a with
  | error n => rw [hf] at h; cases h
  | ok w =>
    rw [hf] at h
    obtain ⟨f1, _⟩ := firstWord_ok hf
    have h' : (if isNamed w = true then (do
          let a_1 ← nameAt ws (a + 1)
          let b ← nameAt ws (a + 2)
          pure ([w, a_1, b], a + 3)) else pure ([w], a + 1) : Except Nat (List Str × Nat)) = .ok (hd, b) := h
    split at h'
    · cases hb : nameAt ws (a + 1) with
      | error n => rw [hb] at h'; cases h'
      | ok u =>
        rw [hb] at h'
        cases hc : nameAt ws (a + 2) with
        | error n => rw [hc] at h'; cases h'
        | ok v =>
          rw [hc] at h'
          cases h'
          have := (nameAt_ok hc).1
          exact ⟨by omega, by omega, by simp, w, _, rfl⟩
    · cases h'
      exact ⟨by omega, by omega, by simp, w, _, rfl⟩
def pTest : RT := rT (r2 fIsN (rVar 3) (rC .non))
def pBody (C : Addr) : RS := (wSeq (wFrz 1 (wAsg (rFn (φ_claim_head C) (rCons (rVar 1) (rCons (rVar 5) rNil))) (rgTup 2 (rgCons (rgName 6) (rgCons (rgName 5) rgNil)))))
  (wSeq (wSet 4 (rCall fMax (rCons (rVar 4) (rCons (r2 fAdd (rLenO 2) (rC (.int 1))) rNil))))
  (wIf (rT (Pu.r1 (fInD kvHOLDING false) (rIxO 6 (rC (.int 0)))))
  (wApp 2 (rTup (rCons (rVar 6) (rCons (Pu.r1 (fIxD kvHOLDING) (rIxO 6 (rC (.int 0)))) (rCons (rTup rNil) rNil)))))
  (wCallG ψ_fold_up 2 3 (rCons (rVar 6) rNil)))))
theorem max_cast (a b : Nat) : (if ((b : Int) + 1) > (a : Int) then ((b : Int) + 1) else (a : Int)) = ((max a (b + 1) : Nat) : Int) := by
  split <;> omega
theorem parse_loop {C : Addr} {ws : List Str} {x : PX} (hws : ws.length ≤ 60) (hw : ∀ w ∈ ws, w.length ≤ 16777216) : ∀ (f : Nat) (a dep : Nat) (w : List Fr) (s0 s6 : Option S) (s1 : S) (P : PEnds), (s1 = .ls true (ws.map D.str) ∨ s1 = .fz (W ws)) → a ≤ ws.length → ws.length + 1 ≤ a + f → w.length ≤ a → (∀ f ∈ w, Fok f) →
    (match turns f ws a w dep with
      | .err n => x (.ref C) [("word", .int n)]
      | .done d a2 dep2 => ∀ s2 s6, P.nx [s0, some (.fz (W ws)), s2, some (.fz d), some (.fz (.int dep2)), some (.fz (.int a2)), s6]) →
    loopW pTest (pBody C) P (fun c fs _ => x c fs) (f + 1) [s0, some s1, some (.ls true (w.map frD).reverse), some (.fz .non), some (.fz (.int dep)), some (.fz (.int a)), s6] := by
  intro f
  induction f with
  | zero => intro a dep w s0 s6 s1 P h1 ha hf; omega
  | succ f ih =>
    intro a dep w s0 s6 s1 P h1 ha hf hl hF hP
    have go : ∀ s1 : S, s1 = .fz (W ws) → loopW pTest (pBody C) P (fun c fs _ => x c fs) (f + 1 + 1) [s0, some s1, some (.ls true (w.map frD).reverse), some (.fz .non), some (.fz (.int dep)), some (.fz (.int a)), s6] := by
      rintro s1 rfl
      unfold turns at hP
      unfold loopW
      simp [pTest, pBody]
      show φ_claim_head C _ _ _
      refine ⟨ws, a, rfl, by omega, by omega, hw, ?_⟩
      cases hc : claimHead ws a with
      | error n =>
        rw [hc] at hP
        simp [ans, Except.map]
        exact hP
      | ok p =>
        obtain ⟨hd, a2⟩ := p
        rw [hc] at hP
        obtain ⟨c1, c2, c3, h0, r, rfl⟩ := claimHead_ok hc
        dsimp only at hP
        simp [ans, Except.map, max_cast]
        cases hh : isHold h0 with
        | true =>
          rw [hh, if_pos rfl] at hP
          rw [show (List.lookup h0 kvHOLDING).isSome = true from hh, if_pos rfl]
          refine ⟨_, hold_val h0 hh, by omega, ?_⟩
          have := ih a2 (max dep (w.length + 1)) ((h0 :: r, count h0, []) :: w) s0 (some (.fz (.tup ((h0 :: r).map D.str)))) (.fz (W ws)) P (.inr rfl) c2 (by omega) (by simp; omega) (fun f hf => by
            rcases List.mem_cons.mp hf with rfl | hf
            · exact ⟨c3, by simp; exact count_pos h0 hh, count_le h0⟩
            · exact hF f hf) hP
          simpa [frD, pTest, pBody] using this
        | false =>
          rw [hh, if_neg Bool.false_ne_true] at hP
          rw [show (List.lookup h0 kvHOLDING).isSome = false from hh, if_neg Bool.false_ne_true]
          obtain ⟨k1, k2, k3⟩ := foldUp_ok w ((h0 :: r).map D.str) hF
          refine ⟨w, [], .tup ((h0 :: r).map D.str), rfl, rfl, ⟨_, rfl, by simpa using c3⟩, by omega, fun f hf => ?_, ?_⟩
          · obtain ⟨q1, q2, q3⟩ := hF f hf
            exact ⟨q1, by omega⟩
          · generalize hfu : foldUp w (.tup ((h0 :: r).map D.str)) = fu at hP k1 k2 k3 ⊢
            obtain ⟨o, w2⟩ := fu
            cases o with
            | some d =>
              obtain ⟨ds, rfl⟩ := k3 d rfl
              simp [loopW, pTest]
              exact hP _ _
            | none =>
              exact ih a2 (max dep (w.length + 1)) w2 s0 (some (.fz (.tup ((h0 :: r).map D.str)))) (.fz (W ws)) P (.inr rfl) c2 (by omega) (by have k2' : w2.length ≤ w.length := k2; omega) k1 hP
    rcases h1 with rfl | rfl
    · have := go _ rfl
      unfold loopW at this ⊢
      simp [pTest, pBody] at this ⊢
      exact this
    · exact go _ rfl
theorem split_len_le (a b : Str) : True := trivial
theorem ok_parse_claim (C : Addr) (hsp : ∀ s : Str, s.length ≤ 10000 → ∀ w ∈ Txt.split s " ", w.length ≤ 16777216) : ∀ ds q x, φ_parse_claim C ds q x → w_parse_claim C { nx := fun _ => q (.fz .non), rt := fun s _ => q s } (fun c fs _ => x c fs) (start 7 ds) := by
  intro ds q x h
  obtain ⟨s, rfl, hs, hq⟩ := h
  unfold parse at hq
  by_cases h0 : s = ""
  · rw [if_pos h0] at hq
    simp [w_parse_claim, h0]
    exact hq
  · rw [if_neg h0] at hq
    have hl1 : (Str.ofString " ").length = 1 := by rw [sp_1]; rfl
    simp [w_parse_claim, h0, hl1]
    refine ⟨by omega, s, rfl, by omega, ?_⟩
    generalize hws : Txt.split s " " = ws at hq
    have hw : ∀ w ∈ ws, w.length ≤ 16777216 := by rw [← hws]; exact hsp s hs
    by_cases h1 : isSpaced s = false ∨ 60 < ws.length
    · rw [if_pos h1] at hq
      rcases h1 with h1 | h1
      · rw [h1]
        simp
        exact hq
      · cases isSpaced s <;> simp <;> first | exact hq | (rw [if_pos (by omega)]; exact hq)
    · rw [if_neg h1] at hq
      have h2 : isSpaced s = true := by cases h : isSpaced s <;> simp_all
      have h3 : ws.length ≤ 60 := by omega
      rw [h2]
      simp
      rw [if_neg (by omega)]
      refine ⟨ws.length + 1 + 1, ?_⟩
      refine parse_loop (C := C) (x := x) h3 hw (ws.length + 1) 0 0 [] (some (.fz (.str s))) none (.ls true (ws.map D.str)) _ (.inl rfl) (by omega) (by omega) (by simp) (by simp) ?_
      · cases ht : turns (ws.length + 1) ws 0 [] 0 with
        | err n =>
          rw [ht] at hq
          exact hq
        | done d a2 dep2 =>
          rw [ht] at hq
          dsimp only at hq ⊢
          intro s2 s6
          simp [W]
          by_cases ha : a2 < ws.length
          · rw [if_pos ha] at hq ⊢
            exact hq
          · rw [if_neg ha] at hq ⊢
            by_cases hd : 12 < dep2
            · rw [if_pos hd] at hq
              rw [if_pos (by omega)]
              exact hq
            · rw [if_neg hd] at hq
              rw [if_neg (by omega)]
              exact hq
end K90
set_option Elab.async false
set_option linter.all false
set_option maxRecDepth 100000
set_option maxHeartbeats 2000000
namespace K90
open PySem PySem.Spec PyProof.Rows L2 Pu
mutual
theorem flat_le : ∀ d : D, wordy d = true → (flat d).length ≤ dsize d
  | .str s, _ => by simp [flat, dsize]
  | .lst xs, h => by
    have := flats_le xs (by simpa [wordy] using h)
    simp only [flat, dsize]; omega
  | .tup xs, h => by
    have := flats_le xs (by simpa [wordy] using h)
    simp only [flat, dsize]; omega
  | .non, h => by simp [wordy] at h
  | .bl _, h => by simp [wordy] at h
  | .int _, h => by simp [wordy] at h
  | .frl _, h => by simp [wordy] at h
  | .obj _ _, h => by simp [wordy] at h
theorem flats_le : ∀ ds : List D, wordys ds = true → (flats ds).length ≤ dsizes ds
  | [], _ => by simp [flats]
  | d :: ds, h => by
    have h' : wordy d = true ∧ wordys ds = true := by simpa [wordys] using h
    have h1 := flat_le d h'.1
    have h2 := flats_le ds h'.2
    simp only [flats, dsizes, List.length_append]
    omega
end
theorem dsize_pos (d : D) : 1 ≤ dsize d := by cases d <;> simp [dsize]
theorem flats_append : ∀ xs ys : List D, flats (xs ++ ys) = flats xs ++ flats ys
  | [], _ => rfl
  | x :: xs, ys => by simp [flats, flats_append xs ys]
theorem wordys_append : ∀ xs ys : List D, wordys (xs ++ ys) = (wordys xs && wordys ys)
  | [], _ => by simp [wordys]
  | x :: xs, ys => by simp [wordys, wordys_append xs ys, Bool.and_assoc]
theorem dsizes_append : ∀ xs ys : List D, dsizes (xs ++ ys) = dsizes xs + dsizes ys
  | [], _ => by simp [dsizes]
  | x :: xs, ys => by simp [dsizes, dsizes_append xs ys]; omega
theorem fmt_loop {s0 : Option S} {x : PX} : ∀ (n : Nat) (todo : List D) (acc : List Str) (s3 : Option S) (P : PEnds), dsizes todo ≤ n → wordys todo = true → acc.length + dsizes todo ≤ 1000 → (∀ s3, P.nx [s0, some (.ls true ((acc ++ flats todo).map D.str)), some (.ls true []), s3]) →
    loopW (rTruO 2) (wSeq (wPop 2 (rgName 3)) (wIf (rT (Pu.r1 (fIsi "str") (rVar 3))) (wApp 1 (rVar 3)) (wExt 2 (Pu.r1 fRev (rCall fList (rCons (rVar 3) rNil)))))) P (fun c fs _ => x c fs) (n + 1) [s0, some (.ls true (acc.map D.str)), some (.ls true todo.reverse), s3] := by
  intro n
  induction n with
  | zero =>
    intro todo acc s3 P h1 h2 h3 hP
    cases todo with
    | nil =>
      simp [loopW]
      simpa [flats] using hP s3
    | cons d todo =>
      have := dsize_pos d
      simp [dsizes] at h1
      omega
  | succ n ih =>
    intro todo acc s3 P h1 h2 h3 hP
    cases todo with
    | nil =>
      unfold loopW
      simp
      simpa [flats] using hP s3
    | cons d todo =>
      have h2' : wordy d = true ∧ wordys todo = true := by simpa [wordys] using h2
      unfold loopW
      simp
      cases d <;> first | (simp [wordy] at h2'; done) | skip
      · rename_i z
        simp [dsizes, dsize] at h1 h3
        simp
        refine ⟨by omega, ?_⟩
        have := ih todo (acc ++ [z]) (some (.fz (.str z))) P (by omega) h2'.2 (by simp; omega) (fun s3 => by have := hP s3; simp [flats, flat] at this; simpa using this)
        simpa using this
      · rename_i xs
        simp [dsizes, dsize] at h1 h3
        simp
        have hx : wordys xs = true := by simpa [wordy] using h2'.1
        have hle : xs.length ≤ dsizes xs := by
          clear h1 h2 h3 h2' hx hP ih
          induction xs with
          | nil => simp
          | cons y ys ih => have := dsize_pos y; simp [dsizes]; omega
        have hlt : todo.length ≤ dsizes todo := by
          clear h1 h2 h3 h2' hx hP ih
          induction todo with
          | nil => simp
          | cons y ys ih => have := dsize_pos y; simp [dsizes]; omega
        refine ⟨by omega, ?_⟩
        have := ih (xs ++ todo) acc (some (.fz (.lst xs))) P (by rw [dsizes_append]; omega) (by rw [wordys_append, hx, h2'.2]; rfl) (by rw [dsizes_append]; omega) (fun s3 => by have := hP s3; rw [flats_append]; simpa [flats, flat] using this)
        simpa using this
      · rename_i xs
        simp [dsizes, dsize] at h1 h3
        simp
        have hx : wordys xs = true := by simpa [wordy] using h2'.1
        have hle : xs.length ≤ dsizes xs := by
          clear h1 h2 h3 h2' hx hP ih
          induction xs with
          | nil => simp
          | cons y ys ih => have := dsize_pos y; simp [dsizes]; omega
        have hlt : todo.length ≤ dsizes todo := by
          clear h1 h2 h3 h2' hx hP ih
          induction todo with
          | nil => simp
          | cons y ys ih => have := dsize_pos y; simp [dsizes]; omega
        refine ⟨by omega, ?_⟩
        have := ih (xs ++ todo) acc (some (.fz (.tup xs))) P (by rw [dsizes_append]; omega) (by rw [wordys_append, hx, h2'.2]; rfl) (by rw [dsizes_append]; omega) (fun s3 => by have := hP s3; rw [flats_append]; simpa [flats, flat] using this)
        simpa using this
theorem ok_format_claim : ∀ ds q x, φ_format_claim ds q x → w_format_claim { nx := fun _ => q (.fz .non), rt := fun s _ => q s } (fun c fs _ => x c fs) (start 4 ds) := by
  intro ds q x h
  obtain ⟨d, rfl, h1, h2, h3, hq⟩ := h
  simp [w_format_claim]
  refine ⟨dsize d + 1, ?_⟩
  have hf := flat_le d h1
  refine fmt_loop (dsize d) [d] [] none _ (by simp [dsizes]) (by simp [wordys, h1]) (by simp [dsizes]; omega) fun s3 => ?_
  simp [flats]
  refine ⟨flat d, rfl, ?_, hq⟩
  rw [sp_1]
  show _ + (flat d).length * 1 ≤ _
  omega
/-! ### the draws -/
theorem cell_loop {s0 s1 : Option S} {x : PX} : ∀ (ns : List Int) (seed : Int) (s3 : Option S) (P : PEnds), 0 ≤ seed → seed < 1000003 → (∀ seed s3, 0 ≤ seed → seed < 1000003 → P.nx [s0, s1, some (.fz (.int seed)), s3]) →
    loopF (rgName 3) (wSet 2 (r2 fMod (rCall fInt (rCons (r2 fAdd (r2 fMulA (rVar 2) (rC (.int 31))) (r2 fMod (rCall fInt (rCons (rVar 3) rNil)) (rC (.int 1000003)))) rNil)) (rC (.int 1000003)))) P (fun c fs _ => x c fs) (ns.map D.int) [s0, s1, some (.fz (.int seed)), s3]
  | [], seed, s3, P, h0, h1, hP => hP seed s3 h0 h1
  | n :: ns, seed, s3, P, h0, h1, hP => by
    simp [loopF]
    refine ⟨.inr (by omega), ?_⟩
    exact cell_loop ns _ _ P (Int.emod_nonneg _ (by omega)) (Int.emod_lt_of_pos _ (by omega)) hP
end K90
set_option Elab.async false
set_option linter.all false
set_option maxRecDepth 100000
set_option maxHeartbeats 2000000
namespace K90
open PySem PySem.Spec PyProof.Rows L2 Pu
theorem ok_law_cell : ∀ ds q x, φ_law_cell ds q x → w_law_cell { nx := fun _ => q (.fz .non), rt := fun s _ => q s } (fun c fs _ => x c fs) (start 4 ds) := by
  intro ds q x h
  obtain ⟨ns, k, rfl, hk, hn, hq⟩ := h
  simp [w_law_cell]
  by_cases hlt : k < ns.length
  · rw [if_pos hlt]
    refine ⟨_, ⟨ns[k], List.getElem?_eq_getElem hlt, rfl⟩, ?_⟩
    exact hq _ (Int.emod_nonneg _ (by decide))
  · rw [if_neg hlt]
    rw [← List.map_take]
    refine cell_loop _ 17 none _ (by omega) (by omega) fun seed s3 h0 h1 => ?_
    simp
    exact ⟨cmul_l (by omega) (by omega), cmul_r (by omega) (by omega), hq _ (Int.emod_nonneg _ (by omega))⟩
def wDig1 : RS := (wSeq (wApp 2 (r2 fMod (rCall fInt (rCons (rVar 3) rNil)) (rVar 6)))
  (wSet 3 (r2 fDiv (rCall fInt (rCons (rVar 3) rNil)) (rVar 6))))
theorem dig1_loop {s0 s1 s4 s5 s7 : Option S} {x : PX} : ∀ (szs : List Int) (acc : List Int) (rest : Int) (s6 : Option S) (P : PEnds), (∀ z ∈ szs, 0 < z ∧ z < 1000) → acc.length + szs.length ≤ 200 → (∀ row rest s6, row.length = szs.length → (∀ (i : Nat) (z : Int), szs[i]? = some z → ∃ r : Int, row[i]? = some r ∧ 0 ≤ r ∧ r < z) → P.nx [s0, s1, some (.ls true ((acc ++ row).map D.int)), some (.fz (.int rest)), s4, s5, s6, s7]) →
    loopF (rgName 6) wDig1 P (fun c fs _ => x c fs) (szs.map D.int) [s0, s1, some (.ls true (acc.map D.int)), some (.fz (.int rest)), s4, s5, s6, s7]
  | [], acc, rest, s6, P, h, hl, hP => by
    have := hP [] rest s6 rfl (fun i z hz => by simp at hz)
    simpa [loopF] using this
  | z :: szs, acc, rest, s6, P, h, hl, hP => by
    have hz := h z List.mem_cons_self
    simp only [List.length_cons] at hl
    simp [loopF, wDig1]
    refine ⟨hz.1, by omega, cdiv hz.1 (by omega), ?_⟩
    have := dig1_loop (s0 := s0) (s1 := s1) (s4 := s4) (s5 := s5) (s7 := s7) (x := x) szs (acc ++ [rest % z]) (rest / z) (some (.fz (.int z))) P (fun y hy => h y (List.mem_cons_of_mem _ hy)) (by simp; omega) (fun row rest' s6' hl' hr' => ?_)
    · simpa [wDig1] using this
    · have := hP (rest % z :: row) rest' s6' (by simp [hl']) (fun i y hy => ?_)
      · simpa using this
      · cases i with
        | zero =>
          simp at hy
          subst hy
          exact ⟨_, rfl, Int.emod_nonneg _ (by omega), Int.emod_lt_of_pos _ (by omega)⟩
        | succ i => exact hr' i y (by simpa using hy)
def wDig2 : RS := (wSeq (wSet 4 (r2 fMod (rCall fInt (rCons (r2 fAdd (r2 fAdd (r2 fMulA (rVar 4) (rC (.int 48271))) (r2 fMulA (rC (.int 974711)) (rVar 5))) (rC (.int 12345))) rNil)) (rC (.int 2147483647))))
  (wSeq (wSet 7 (r2 fMod (rCall fInt (rCons (r2 fMulA (rVar 4) (r2 fAdd (r2 fDiv (rVar 4) (rC (.int 65537))) (rC (.int 3)))) rNil)) (rC (.int 2147483629))))
  (wApp 2 (r2 fMod (r2 fDiv (rVar 7) (rC (.int 19))) (rIxO 1 (rVar 5))))))
theorem dig2_loop {s0 s3 s6 : Option S} {x : PX} {all : List Int} : ∀ (n k : Nat) (acc : List Int) (seed : Int) (s5 s7 : Option S) (P : PEnds), k + n = all.length → (∀ z ∈ all, 0 < z ∧ z < 1000) → acc.length = k → all.length ≤ 100 → 0 ≤ seed → seed < 2147483647 → (∀ row seed s5 s7, row.length = n → (∀ (i : Nat) (z : Int), all[k + i]? = some z → ∃ r : Int, row[i]? = some r ∧ 0 ≤ r ∧ r < z) → P.nx [s0, some (.fz (.lst (all.map D.int))), some (.ls true ((acc ++ row).map D.int)), s3, some (.fz (.int seed)), s5, s6, s7]) →
    loopF (rgName 5) wDig2 P (fun c fs _ => x c fs) ((List.range' k n).map fun (i : Nat) => D.int i) [s0, some (.fz (.lst (all.map D.int))), some (.ls true (acc.map D.int)), s3, some (.fz (.int seed)), s5, s6, s7]
  | 0, k, acc, seed, s5, s7, P, hk, h, ha, hl, h0, h1, hP => by
    have := hP [] seed s5 s7 rfl (fun i z hz => by rw [List.getElem?_eq_none (by omega)] at hz; cases hz)
    simpa [loopF] using this
  | n + 1, k, acc, seed, s5, s7, P, hk, h, ha, hl, h0, h1, hP => by
    have hkl : k < all.length := by omega
    obtain ⟨z, hz⟩ : ∃ z, all[k]? = some z := ⟨_, List.getElem?_eq_getElem hkl⟩
    have hzz := h z (List.mem_of_getElem? hz)
    rw [List.range'_succ]
    simp [loopF, wDig2, hz]
    have hs := Int.emod_nonneg (seed * 48271 + 974711 * (k : Int) + 12345) (b := 2147483647) (by omega)
    have hs2 := Int.emod_lt_of_pos (seed * 48271 + 974711 * (k : Int) + 12345) (b := 2147483647) (by omega)
    generalize hsd : (seed * 48271 + 974711 * (k : Int) + 12345) % 2147483647 = sd at hs hs2 ⊢
    refine ⟨cmul_r (by omega) (by omega), cmul_l (by omega) (by omega), cmul_l (by omega) (by omega), hzz.1, by omega, ?_⟩
    have := dig2_loop (s0 := s0) (s3 := s3) (s6 := s6) (x := x) (all := all) n (k + 1) (acc ++ [sd * (sd / 65537 + 3) % 2147483629 / 19 % z]) sd (some (.fz (.int k))) (some (.fz (.int (sd * (sd / 65537 + 3) % 2147483629)))) P (by omega) h (by simp [ha]) hl hs hs2 (fun row seed' s5' s7' hl' hr' => ?_)
    · simpa [wDig2] using this
    · have := hP ((sd * (sd / 65537 + 3) % 2147483629 / 19 % z) :: row) seed' s5' s7' (by simp [hl']) (fun i y hy => ?_)
      · simpa using this
      · cases i with
        | zero =>
          simp [hz] at hy
          subst hy
          exact ⟨_, rfl, Int.emod_nonneg _ (by omega), Int.emod_lt_of_pos _ (by omega)⟩
        | succ i => exact hr' i y (by rw [← hy]; congr 1; omega)
theorem ok_law_digits : ∀ ds q x, φ_law_digits ds q x → w_law_digits { nx := fun _ => q (.fz .non), rt := fun s _ => q s } (fun c fs _ => x c fs) (start 8 ds) := by
  intro ds q x h
  obtain ⟨n, szs, rfl, h0, h1, h2, hq⟩ := h
  simp [w_law_digits]
  split
  · refine dig1_loop szs [] _ none _ h1 (by simp; omega) fun row rest s6 hl hr => ?_
    simp
    exact hq row hl hr
  · refine ⟨by omega, ?_⟩
    rw [rangeD0]
    refine dig2_loop (all := szs) szs.length 0 [] _ none none _ (by omega) h1 rfl h2 (Int.emod_nonneg _ (by omega)) (Int.lt_trans (Int.emod_lt_of_pos _ (by omega)) (by omega)) fun row seed s5 s7 hl hr => ?_
    simp
    exact hq row hl (fun i z hz => hr i z (by simpa using hz))
end K90
set_option Elab.async false
set_option linter.all false
set_option maxRecDepth 100000
set_option maxHeartbeats 2000000
namespace K90
open PySem PySem.Spec PyProof.Rows L2 Pu
theorem nam_end {q : S → Prop} {g : Int} {b : Bool} {s2 s3 s5 s6 s7 s8 : Option S} (ds : List D) (pool : List Str) (hds : ds = pool.map D.str) (h : pool.length = 24) (hp : ∀ n ∈ pool, isName n = true) (h0 : 0 ≤ g) (h1 : g < 24) (hq : ∀ ns : List Str, ns.length = 8 → (∀ n ∈ ns, isName n = true) → q (.fz (.lst (ns.map D.str)))) :
    lcF (rgName 7) rYes (rIxO 4 (r2 (fI (fun x j => 0 < j) fun i j => D.int (i % j)) (rCall fInt (rCons (r2 fAdd (rVar 0) (r2 fMulA (rC (.int 5)) (rVar 7))) rNil)) (rC (.int 24)))) [some (.fz (.int g)), some (.fz (.int 8)), s2, s3, some (.ls b ds), s5, s6, s7, s8] (rangeD 0 8) [] (fun acc => q (.fz (.lst acc))) := by
  subst hds
  have := rangeD0 8
  rw [show ((8 : Nat) : Int) = 8 from rfl] at this
  rw [this]
  refine lc_map (f := fun d => match d with | .int k => .str (pool.getD ((g + 5 * k) % 24).toNat "") | _ => .non) [] (fun d hd k hk => ?_) (by simp) ?_
  · obtain ⟨a, ha, rfl⟩ := List.mem_map.mp hd
    simp
    refine ⟨cmul_l (by omega) (by omega), ?_⟩
    have e : (((g + 5 * (a : Int)) % 24).toNat : Int) = (g + 5 * (a : Int)) % 24 := by omega
    have hlt : ((g + 5 * (a : Int)) % 24).toNat < pool.length := by omega
    rw [← e, atI_cast, List.getElem?_map, List.getElem?_eq_getElem hlt]
    refine ⟨_, rfl, hk _ ?_⟩
    simp [hlt]
  · have := hq ((List.range' 0 8).map fun (k : Nat) => (pool.getD ((g + 5 * (k : Int)) % 24).toNat "")) (by simp) (fun n hn => ?_)
    · rw [List.nil_append, List.map_map]
      rw [List.map_map] at this
      exact this
    · obtain ⟨k, hk, rfl⟩ := List.mem_map.mp hn
      have hlt : ((g + 5 * (k : Int)) % 24).toNat < pool.length := by omega
      refine hp _ ?_
      rw [List.getD_eq_getElem?_getD, List.getElem?_eq_getElem hlt]
      exact List.getElem_mem hlt
def menuL : List Str := ["k7", "zed", "a", "mill2", "q", "bay", "wind", "c10", "tor", "x", "ebb", "rain4", "fog", "h", "lamp9", "ox", "dune", "v3", "silt", "j", "nut", "gale", "p2p", "yew"]
def nm2 (g : Int) (c : Str) : Str := cutS "c4bz0a9k" none (some (g / 4)) ++ c ++ cutS "c4bz0a9k" (some (g / 4 + 1)) (some (g / 4 + 1 + g / 2 % (8 - g / 4)))
def nm3 (k : Int) : Str := ⟨#[(("hpv" : Str).cps.toList).getD (k / 8).toNat 0]⟩ ++ strRep "o" (k % 8).toNat
theorem menu_ok : ∀ n ∈ menuL, isName n = true := by decide +kernel
theorem nm2_ok : ∀ g : Nat, g < 24 → g % 4 = 2 → ∀ c ∈ ("mqtwhxyrdefgijlnopsuvkbz" : Str).cps.toList, isName (nm2 g ⟨#[c]⟩) = true := by decide +kernel
theorem nm2_len : ∀ g : Nat, g < 24 → (cutS "c4bz0a9k" none (some ((g : Int) / 4))).length ≤ 1000 ∧ (cutS "c4bz0a9k" (some ((g : Int) / 4 + 1)) (some ((g : Int) / 4 + 1 + (g : Int) / 2 % (8 - (g : Int) / 4)))).length ≤ 1000 := by decide +kernel
theorem nm3_ok : ∀ k : Nat, k < 24 → isName (nm3 k) = true ∧ (strRep "o" ((k : Int) % 8).toNat).length ≤ 100 ∧ ∃ c, (("hpv" : Str).cps.toList)[((k : Int) / 8).toNat]? = some c := by
  have h : ∀ k : Nat, k < 24 → isName (nm3 k) = true ∧ (strRep "o" ((k : Int) % 8).toNat).length ≤ 100 ∧ ((("hpv" : Str).cps.toList)[((k : Int) / 8).toNat]?).isSome = true := by decide +kernel
  exact fun k hk => ⟨(h k hk).1, (h k hk).2.1, Option.isSome_iff_exists.mp (h k hk).2.2⟩
theorem len1 : (Str.ofString "o").length = 1 := by decide +kernel
theorem len3 : (Str.ofString "hpv").length = 3 := by decide +kernel
theorem len8 : (Str.ofString "c4bz0a9k").length = 8 := by decide +kernel
theorem lenS (c : Nat) : (⟨#[c]⟩ : Str).length = 1 := rfl
theorem len_add (a b : Str) : (a ++ b).length = a.length + b.length := by
  show (a.cps ++ b.cps).size = _
  rw [Array.size_append]; rfl
theorem ok_law_names : ∀ ds q x, φ_law_names ds q x → w_law_names { nx := fun _ => q (.fz .non), rt := fun s _ => q s } (fun c fs _ => x c fs) (start 9 ds) := by
  intro ds q x h
  obtain ⟨g, rfl, h0, h1, hq⟩ := h
  simp [w_law_names]
  refine ⟨small_size (by omega), ?_⟩
  obtain ⟨n, rfl⟩ : ∃ n : Nat, (n : Int) = g := ⟨g.toNat, by omega⟩
  by_cases h2 : (n : Int) % 4 = 2
  · rw [if_pos h2]
    refine ⟨cdiv (by omega) (by omega), cdiv (by omega) (by omega), by omega, ?_⟩
    have hl := nm2_len n (by omega)
    refine lc_map (f := fun d => match d with | .str c => .str (nm2 n c) | _ => .non) [] (fun d hd k hk => ?_) (by simp; decide +kernel) ?_
    · obtain ⟨a, ha, rfl⟩ := List.mem_map.mp hd
      simp [len8]
      refine ⟨small_size (by rw [lenS]; omega), small_size (by rw [len_add, lenS]; omega), hk _ rfl⟩
    · rw [if_neg (by omega)]
      refine nam_end _ (("mqtwhxyrdefgijlnopsuvkbz" : Str).cps.toList.map fun c => nm2 n ⟨#[c]⟩) ?_ (by simp; decide +kernel) ?_ h0 h1 hq
      · simp
      · intro m hm
        obtain ⟨c, hc, rfl⟩ := List.mem_map.mp hm
        exact nm2_ok n (by omega) (by omega) c hc
  · rw [if_neg h2]
    by_cases h3 : (n : Int) % 4 = 3
    · rw [if_pos h3]
      have := rangeD0 24
      rw [show ((24 : Nat) : Int) = 24 from rfl] at this
      rw [this]
      refine lc_map (f := fun d => match d with | .int k => .str (nm3 k) | _ => .non) [] (fun d hd k hk => ?_) (by simp) ?_
      · obtain ⟨a, ha, rfl⟩ := List.mem_map.mp hd
        have ha : a < 24 := by simpa using ha
        have e : (((a : Int) / 8).toNat : Int) = (a : Int) / 8 := by omega
        obtain ⟨i1, i2, c, i3⟩ := nm3_ok a ha
        simp [len1, len3, -Array.getElem?_toList]
        refine ⟨cdiv (by omega) (by omega), small_size (by omega), c, ?_, ⟨by omega, by omega, by omega⟩, small_size (by rw [lenS]; omega), hk _ ?_⟩
        · rw [← e, atI_cast, i3]
        · show D.str _ = D.str (nm3 a)
          unfold nm3
          rw [List.getD_eq_getElem?_getD, i3]
          rfl
      · refine nam_end _ ((List.range' 0 24).map fun (k : Nat) => nm3 k) ?_ (by simp) ?_ h0 h1 hq
        · simp
        · intro m hm
          obtain ⟨k, hk, rfl⟩ := List.mem_map.mp hm
          exact (nm3_ok k (by simpa using hk)).1
    · rw [if_neg h3]
      exact nam_end _ menuL rfl rfl menu_ok h0 h1 hq
theorem mem_of_mod {α : Type} {xs : List α} {i : Int} (h : 0 < xs.length) : ∃ v, L2.atI xs (i % (xs.length : Int)) = some v ∧ v ∈ xs := by
  have e : ((i % (xs.length : Int)).toNat : Int) = i % (xs.length : Int) := by
    have := Int.emod_nonneg i (b := xs.length) (by omega)
    omega
  have hlt : (i % (xs.length : Int)).toNat < xs.length := by
    have := Int.emod_lt_of_pos i (b := xs.length) (by omega)
    omega
  have h2 := atI_cast xs (i % (xs.length : Int)).toNat
  rw [e] at h2
  exact ⟨_, by rw [h2, List.getElem?_eq_getElem hlt], List.getElem_mem hlt⟩
theorem atI_map {α β : Type} (f : α → β) (xs : List α) (i : Int) : L2.atI (xs.map f) i = (L2.atI xs i).map f := by
  unfold L2.atI
  rw [List.length_map]
  cases ixN xs.length i with
  | none => rfl
  | some n => simp
theorem ok_law_atom : ∀ ds q x, φ_law_atom ds q x → w_law_atom { nx := fun _ => q (.fz .non), rt := fun s _ => q s } (fun c fs _ => x c fs) (start 6 ds) := by
  intro ds q x h
  obtain ⟨row, a, ns, rfl, ha, hn, hn2, ha2, hq⟩ := h
  have e1 : row[a]? = some row[a] := List.getElem?_eq_getElem (by omega)
  have e2 : row[a + 1]? = some row[a + 1] := List.getElem?_eq_getElem (by omega)
  have e3 : row[a + 2]? = some row[a + 2] := List.getElem?_eq_getElem (by omega)
  have a1 : L2.atI row ((a : Int) + 1) = row[a + 1]? := atI_cast row (a + 1)
  have a2 : L2.atI row ((a : Int) + 2) = row[a + 2]? := atI_cast row (a + 2)
  simp [w_law_atom, W, atI_map, a1, a2, e1, e2, e3]
  obtain ⟨k, k1, k2⟩ := mem_of_mod (xs := kinds7) (i := row[a]) (by decide)
  obtain ⟨u, u1, u2⟩ := mem_of_mod (xs := ns) (i := row[a + 1]) hn
  obtain ⟨v, v1, v2⟩ := mem_of_mod (xs := ns) (i := row[a + 2]) hn
  have k3 := atI_map D.str kinds7 (row[a] % (kinds7.length : Int))
  rw [k1] at k3
  exact ⟨.str k, k3, hn, .str u, ⟨u, u1, rfl⟩, hn, .str v, ⟨v, v1, rfl⟩, hq k k2 u u2 v v2⟩
end K90
set_option Elab.async false
set_option linter.all false
set_option maxRecDepth 100000
set_option maxHeartbeats 2000000
namespace K90
open PySem PySem.Spec PyProof.Rows L2 Pu
@[simp] theorem ne_not_and : (Str.ofString "not" = Str.ofString "and") = False := eq_false (by decide +kernel)
@[simp] theorem ne_not_or : (Str.ofString "not" = Str.ofString "or") = False := eq_false (by decide +kernel)
@[simp] theorem ne_and_not : (Str.ofString "and" = Str.ofString "not") = False := eq_false (by decide +kernel)
@[simp] theorem ne_and_or : (Str.ofString "and" = Str.ofString "or") = False := eq_false (by decide +kernel)
@[simp] theorem ne_or_not : (Str.ofString "or" = Str.ofString "not") = False := eq_false (by decide +kernel)
@[simp] theorem ne_or_and : (Str.ofString "or" = Str.ofString "and") = False := eq_false (by decide +kernel)
@[simp] theorem ne_with_not : (Str.ofString "with" = Str.ofString "not") = False := eq_false (by decide +kernel)
@[simp] theorem ne_with_and : (Str.ofString "with" = Str.ofString "and") = False := eq_false (by decide +kernel)
@[simp] theorem ne_with_or : (Str.ofString "with" = Str.ofString "or") = False := eq_false (by decide +kernel)
@[simp] theorem ne_without_not : (Str.ofString "without" = Str.ofString "not") = False := eq_false (by decide +kernel)
@[simp] theorem ne_without_and : (Str.ofString "without" = Str.ofString "and") = False := eq_false (by decide +kernel)
@[simp] theorem ne_without_or : (Str.ofString "without" = Str.ofString "or") = False := eq_false (by decide +kernel)
@[simp] theorem in_and_or (w : Str) (q : S → Prop) : fInB false (.str w) (.lst [.str "and", .str "or"]) q ↔ q (.fz (.bl (decide (w ∈ (["and", "or"] : List Str))))) := in_wr w _ ["and", "or"] rfl q
@[simp] theorem in_not_and_or (w : Str) (q : S → Prop) : fInB false (.str w) (.lst [.str "not", .str "and", .str "or"]) q ↔ q (.fz (.bl (decide (w ∈ (["not", "and", "or"] : List Str))))) := in_wr w _ ["not", "and", "or"] rfl q
def wClW2 : RS := (wSeq (wSet 12 (rIxO 1 (r2 fMod (rCall fInt (rCons (rIxO 0 (r2 fAdd (rVar 7) (rC (.int 3)))) rNil)) (rLenO 1))))
  (wSet 10 (rLst (rCons (rTup (rCons (rVar 8) (rCons (rVar 11) (rCons (rVar 12) (rCons (rIxO 5 (rC (.int 0))) rNil))))) (rCons (r2 fAdd (rLst (rCons (rVar 8) (rCons (rVar 11) (rCons (rVar 12) rNil)))) (rIxO 5 (rC (.int 1)))) (rCons (r2 fAdd (rIxO 5 (rC (.int 2))) (rC (.int 1))) rNil))))))
def wClW : RS := (wSeq (wSet 11 (rIxO 1 (r2 fMod (rCall fInt (rCons (rIxO 0 (r2 fAdd (rVar 7) (rC (.int 2)))) rNil)) (rLenO 1))))
  wClW2)
def wClN : RS := (wSet 10 (rLst (rCons (rTup (rCons (rC (.str "not")) (rCons (rIxO 5 (rC (.int 0))) rNil))) (rCons (r2 fAdd (rLst (rCons (rC (.str "not")) rNil)) (rIxO 5 (rC (.int 1)))) (rCons (r2 fAdd (rIxO 5 (rC (.int 2))) (rC (.int 1))) rNil)))))
def wClA : RS := (wIf (rT (r2 fEq (r2 fMod (rIxO 0 (r2 fAdd (rVar 7) (rC (.int 1)))) (rC (.int 2))) (rC (.int 0))))
  (wSet 10 (rLst (rCons (rTup (rCons (rVar 8) (rCons (rIxO 5 (rC (.int 0))) (rCons (rIxO 9 (rC (.int 0))) rNil)))) (rCons (r2 fAdd (r2 fAdd (rLst (rCons (rVar 8) rNil)) (rIxO 5 (rC (.int 1)))) (rIxO 9 (rC (.int 1)))) (rCons (r2 fAdd (rIxO 5 (rC (.int 2))) (rC (.int 1))) rNil)))))
  (wSet 10 (rLst (rCons (rTup (rCons (rVar 8) (rCons (rIxO 9 (rC (.int 0))) (rCons (rIxO 5 (rC (.int 0))) rNil)))) (rCons (r2 fAdd (r2 fAdd (rLst (rCons (rVar 8) rNil)) (rIxO 9 (rC (.int 1)))) (rIxO 5 (rC (.int 1)))) (rCons (r2 fAdd (rIxO 5 (rC (.int 2))) (rC (.int 1))) rNil))))))
def wClI : RS := (wIf (rT (r2 fEq (rVar 8) (rC (.str "not"))))
  wClN
  (wIf (rT (r2 (fInB false) (rVar 8) (rLst (rCons (rC (.str "and")) (rCons (rC (.str "or")) rNil)))))
  wClA
  wClW))
def wClE : RS := (wIf (rAnd (rT (r2 fLe (rCall fLen (rCons (rIxO 10 (rC (.int 1))) rNil)) (rVar 3))) (rT (r2 fLe (rIxO 10 (rC (.int 2))) (rVar 4))))
  (wFrz 10 (wSet 5 (rVar 10)))
  wNext)
def wClB : RS := (wSeq (wSet 7 (r2 fAdd (rC (.int 3)) (r2 fMulA (rC (.int 4)) (rVar 6))))
  (wSeq (wSet 8 (r2 fIx (rLst (rCons (rC (.str "not")) (rCons (rC (.str "and")) (rCons (rC (.str "or")) (rCons (rC (.str "with")) (rCons (rC (.str "without")) (rCons (rC (.str "and")) rNil))))))) (r2 fMod (rCall fInt (rCons (rIxO 0 (rVar 7)) rNil)) (rC (.int 6)))))
  (wSeq (wSet 9 (rFn φ_law_atom (rCons (rVar 0) (rCons (r2 fAdd (rVar 7) (rC (.int 1))) (rCons (rVar 1) rNil)))))
  (wSeq wClI
  wClE))))
def heads6 : List Str := ["not", "and", "or", "with", "without", "and"]
/-- a list, own or not -/
def Ls (s : S) (ds : List D) : Prop := s = .fz (.lst ds) ∨ s = .ls true ds
def T.ds (t : T) : List D := [t.d, W t.words, .int t.depth]
theorem Ls.peek {s : S} {ds : List D} (h : Ls s ds) (a b c d e : Option S) (r : List (Option S)) : Pu.peek (a :: b :: c :: d :: e :: some s :: r) 5 = some (.lst ds) := by
  rcases h with rfl | rfl <;> rfl
theorem claim_end {x : PX} {row : List Int} {ns : List Str} {most deep : Int} {s2 s5 s10 : S} {s6 s7 s8 s9 s11 s12 : Option S} {P : PEnds} (t t2 : T)
    (hs : Ls s5 t.ds) (ht : t.ok) (hw : (t.words.length : Int) ≤ most) (hp : (t.depth : Int) ≤ deep) (hs2 : s10 = .ls true t2.ds) (ht2 : t2.ok)
    (hP : ∀ (t : T) (s5 : S) (s6 s7 s8 s9 s10 s11 s12 : Option S), Ls s5 t.ds → t.ok → (t.words.length : Int) ≤ most → (t.depth : Int) ≤ deep → P.nx [some (.fz (.lst (row.map D.int))), some (.fz (W ns)), some s2, some (.fz (.int most)), some (.fz (.int deep)), some s5, s6, s7, s8, s9, s10, s11, s12]) :
    wClE P (fun c fs _ => x c fs) [some (.fz (.lst (row.map D.int))), some (.fz (W ns)), some s2, some (.fz (.int most)), some (.fz (.int deep)), some s5, s6, s7, s8, s9, some s10, s11, s12] := by
  subst hs2
  simp [wClE, T.ds, W]
  split
  · split
    · exact hP t2 _ _ _ _ _ _ _ _ (.inl rfl) ht2 (by assumption) (by assumption)
    · exact hP t _ _ _ _ _ _ _ _ hs ht hw hp
  · exact hP t _ _ _ _ _ _ _ _ hs ht hw hp
theorem claim_not {x : PX} {row : List Int} {ns : List Str} {most deep : Int} {k : Nat} {w : Str} {s2 s5 : S} {s6 s10 s11 s12 : Option S} {P : PEnds} (t : T) {kd y z : Str}
    (hr : row.length = 51) (hn : ns.length = 12) (hns : ∀ n ∈ ns, isName n = true) (hk : k < 12) (hs : Ls s5 t.ds) (ht : t.ok) (hlw : t.words.length ≤ 60) (hkd : kd ∈ kinds7) (hy : y ∈ ns) (hz : z ∈ ns)
    (hP : ∀ (t2 : T) (s6 s7 s8 s9 s11 s12 : Option S), t2.ok → P.nx [some (.fz (.lst (row.map D.int))), some (.fz (W ns)), some s2, some (.fz (.int most)), some (.fz (.int deep)), some s5, s6, s7, s8, s9, some (.ls true t2.ds), s11, s12]) :
    wClN P (fun c fs _ => x c fs) [some (.fz (.lst (row.map D.int))), some (.fz (W ns)), some s2, some (.fz (.int most)), some (.fz (.int deep)), some s5, s6, some (.fz (.int (3 + 4 * (k : Int)))), some (.fz (.str w)), some (.fz (.lst [.tup [.str kd, .str y, .str z], .lst [.str kd, .str y, .str z]])), s10, s11, s12] := by
  rcases hs with rfl | rfl
  all_goals
    simp [wClN, T.ds, W]
    refine ⟨small_size (by omega), ?_⟩
    have := hP (.one ["not"] t) s6 (some (.fz (.int (3 + 4 * (k : Int))))) (some (.fz (.str w))) (some (.fz (.lst [.tup [.str kd, .str y, .str z], .lst [.str kd, .str y, .str z]]))) s11 s12 ⟨.inl rfl, ht⟩
    exact this
theorem claim_and {x : PX} {row : List Int} {ns : List Str} {most deep : Int} {k : Nat} {w : Str} {s2 s5 : S} {s6 s10 s11 s12 : Option S} {P : PEnds} (t : T) {kd y z : Str}
    (hr : row.length = 51) (hn : ns.length = 12) (hns : ∀ n ∈ ns, isName n = true) (hk : k < 12) (hs : Ls s5 t.ds) (ht : t.ok) (hlw : t.words.length ≤ 60) (hkd : kd ∈ kinds7) (hy : y ∈ ns) (hz : z ∈ ns)
    (hP : ∀ (t2 : T) (s6 s7 s8 s9 s11 s12 : Option S), t2.ok → P.nx [some (.fz (.lst (row.map D.int))), some (.fz (W ns)), some s2, some (.fz (.int most)), some (.fz (.int deep)), some s5, s6, s7, s8, s9, some (.ls true t2.ds), s11, s12]) (h3 : w = "and" ∨ w = "or") :
    wClA P (fun c fs _ => x c fs) [some (.fz (.lst (row.map D.int))), some (.fz (W ns)), some s2, some (.fz (.int most)), some (.fz (.int deep)), some s5, s6, some (.fz (.int (3 + 4 * (k : Int)))), some (.fz (.str w)), some (.fz (.lst [.tup [.str kd, .str y, .str z], .lst [.str kd, .str y, .str z]])), s10, s11, s12] := by
  have a1 : L2.atI row (3 + 4 * (k : Int) + 1) = some row[3 + 4 * k + 1] := (atI_cast row (3 + 4 * k + 1)).trans (List.getElem?_eq_getElem (by omega))
  have hdp : 1 ≤ t.depth := by cases t <;> simp [T.depth]
  have dmax : max t.depth 1 = t.depth := by omega
  have dmax2 : max 1 t.depth = t.depth := by omega
  rcases hs with rfl | rfl
  all_goals
    simp [wClA, T.ds, W, atI_map, a1]
    split
    · refine ⟨small_size (by omega), small_size (by omega), ?_⟩
      simpa [T.ds, W, T.d, T.words, T.depth, dmax] using hP (.two w t (.leaf kd y z)) s6 _ _ _ s11 s12 ⟨h3, ht, hkd, hns _ hy, hns _ hz⟩
    · refine ⟨small_size (by omega), small_size (by omega), ?_⟩
      simpa [T.ds, W, T.d, T.words, T.depth, dmax2] using hP (.two w (.leaf kd y z) t) s6 _ _ _ s11 s12 ⟨h3, ⟨hkd, hns _ hy, hns _ hz⟩, ht⟩
theorem claim_with {x : PX} {row : List Int} {ns : List Str} {most deep : Int} {k : Nat} {w : Str} {s2 s5 : S} {s6 s10 s11 s12 : Option S} {P : PEnds} (t : T) {kd y z : Str}
    (hr : row.length = 51) (hn : ns.length = 12) (hns : ∀ n ∈ ns, isName n = true) (hk : k < 12) (hs : Ls s5 t.ds) (ht : t.ok) (hlw : t.words.length ≤ 60) (hkd : kd ∈ kinds7) (hy : y ∈ ns) (hz : z ∈ ns)
    (hP : ∀ (t2 : T) (s6 s7 s8 s9 s11 s12 : Option S), t2.ok → P.nx [some (.fz (.lst (row.map D.int))), some (.fz (W ns)), some s2, some (.fz (.int most)), some (.fz (.int deep)), some s5, s6, s7, s8, s9, some (.ls true t2.ds), s11, s12]) (h3 : w = "with" ∨ w = "without") :
    wClW P (fun c fs _ => x c fs) [some (.fz (.lst (row.map D.int))), some (.fz (W ns)), some s2, some (.fz (.int most)), some (.fz (.int deep)), some s5, s6, some (.fz (.int (3 + 4 * (k : Int)))), some (.fz (.str w)), some (.fz (.lst [.tup [.str kd, .str y, .str z], .lst [.str kd, .str y, .str z]])), s10, s11, s12] := by
  have a2 : L2.atI row (3 + 4 * (k : Int) + 2) = some row[3 + 4 * k + 2] := (atI_cast row (3 + 4 * k + 2)).trans (List.getElem?_eq_getElem (by omega))
  have a3 : L2.atI row (3 + 4 * (k : Int) + 3) = some row[3 + 4 * k + 3] := (atI_cast row (3 + 4 * k + 3)).trans (List.getElem?_eq_getElem (by omega))
  obtain ⟨u, u1, u2⟩ := mem_of_mod (xs := ns) (i := row[3 + 4 * k + 2]) (by omega)
  obtain ⟨v, v1, v2⟩ := mem_of_mod (xs := ns) (i := row[3 + 4 * k + 3]) (by omega)
  rw [hn] at u1 v1
  have u3 : atI ns (row[3 + 4 * k + 2] % 12) = some u := u1
  have v3 : atI ns (row[3 + 4 * k + 3] % 12) = some v := v1
  generalize row[3 + 4 * k + 2] = r2 at *
  generalize row[3 + 4 * k + 3] = r3 at *
  simp only [wClW, rVar, rC, Pu.r2, rNil, rCons, rTup, rLst, rT, rTru, rAnd, rOr, rNot, rAndV, rOrV, rNotV, rIf, rCall, roNo, roSo, rSlice, Pu.r1, rM1, rFn, riSeq, riStr, riR1, riR2, rgName, rgNil, rgCons, rgTup, rLc, rYes, wNext, wSeq, wFrz, wSet, wAsg, wDrop, wRet, wRetF, wRetN, wBrk, wCont, wIf, wFor, wWhile, wApp, wExt, wPop, wPut, peek, rLenO, rTruO, rIxO, rInO, wCallG, wRaise, rXf, rXi, rXi2, hNil, hPlain, hNamed, wTry, fI, fSub, fMul, fDiv, fMod, fPow, fLt, fLe, fGt, fGe, fAdd, fEq, fNe, fIsN, fNotN, fIx, fMulA, fNeg, fInD, fIxD]
  simp [W, atI_map, a2, u3, hn]
  simp only [wClW2, rVar, rC, Pu.r2, rNil, rCons, rTup, rLst, rT, rTru, rAnd, rOr, rNot, rAndV, rOrV, rNotV, rIf, rCall, roNo, roSo, rSlice, Pu.r1, rM1, rFn, riSeq, riStr, riR1, riR2, rgName, rgNil, rgCons, rgTup, rLc, rYes, wNext, wSeq, wFrz, wSet, wAsg, wDrop, wRet, wRetF, wRetN, wBrk, wCont, wIf, wFor, wWhile, wApp, wExt, wPop, wPut, peek, rLenO, rTruO, rIxO, rInO, wCallG, wRaise, rXf, rXi, rXi2, hNil, hPlain, hNamed, wTry, fI, fSub, fMul, fDiv, fMod, fPow, fLt, fLe, fGt, fGe, fAdd, fEq, fNe, fIsN, fNotN, fIx, fMulA, fNeg, fInD, fIxD]
  simp [atI_map, a3, v3, hn]
  rcases hs with rfl | rfl
  all_goals
    simp only [rVar, rC, Pu.r2, rNil, rCons, rTup, rLst, rT, rTru, rAnd, rOr, rNot, rAndV, rOrV, rNotV, rIf, rCall, roNo, roSo, rSlice, Pu.r1, rM1, rFn, riSeq, riStr, riR1, riR2, rgName, rgNil, rgCons, rgTup, rLc, rYes, wNext, wSeq, wFrz, wSet, wAsg, wDrop, wRet, wRetF, wRetN, wBrk, wCont, wIf, wFor, wWhile, wApp, wExt, wPop, wPut, peek, rLenO, rTruO, rIxO, rInO, wCallG, wRaise, rXf, rXi, rXi2, hNil, hPlain, hNamed, wTry, fI, fSub, fMul, fDiv, fMod, fPow, fLt, fLe, fGt, fGe, fAdd, fEq, fNe, fIsN, fNotN, fIx, fMulA, fNeg, fInD, fIxD]
    simp [T.ds, W]
    refine ⟨small_size (by omega), ?_⟩
    simpa [T.ds, W, T.d, T.words, T.depth] using hP (.one [w, u, v] t) s6 _ _ _ _ _ ⟨.inr ⟨_, _, _, rfl, h3, hns _ u2, hns _ v2⟩, ht⟩
theorem claim_if {x : PX} {row : List Int} {ns : List Str} {most deep : Int} {k : Nat} {w : Str} {s2 s5 : S} {s6 s10 s11 s12 : Option S} {P : PEnds} (t : T) {kd y z : Str}
    (hr : row.length = 51) (hn : ns.length = 12) (hns : ∀ n ∈ ns, isName n = true) (hk : k < 12) (hs : Ls s5 t.ds) (ht : t.ok) (hlw : t.words.length ≤ 60) (hkd : kd ∈ kinds7) (hy : y ∈ ns) (hz : z ∈ ns)
    (hP : ∀ (t2 : T) (s6 s7 s8 s9 s11 s12 : Option S), t2.ok → P.nx [some (.fz (.lst (row.map D.int))), some (.fz (W ns)), some s2, some (.fz (.int most)), some (.fz (.int deep)), some s5, s6, s7, s8, s9, some (.ls true t2.ds), s11, s12]) (hw2 : w ∈ heads6) :
    wClI P (fun c fs _ => x c fs) [some (.fz (.lst (row.map D.int))), some (.fz (W ns)), some s2, some (.fz (.int most)), some (.fz (.int deep)), some s5, s6, some (.fz (.int (3 + 4 * (k : Int)))), some (.fz (.str w)), some (.fz (.lst [.tup [.str kd, .str y, .str z], .lst [.str kd, .str y, .str z]])), s10, s11, s12] := by
  by_cases h1 : w = "not"
  · have f1 : (w = Str.ofString "not") = True := eq_true h1
    simp [wClI, f1]
    exact claim_not t hr hn hns hk hs ht hlw hkd hy hz hP
  · have f1 : (w = Str.ofString "not") = False := eq_false h1
    by_cases h2 : w ∈ (["and", "or"] : List Str)
    · have f2 : decide (w ∈ [Str.ofString "and", Str.ofString "or"]) = true := decide_eq_true h2
      simp [wClI, f1, f2, -List.mem_cons, -decide_eq_true_eq]
      exact claim_and t hr hn hns hk hs ht hlw hkd hy hz hP (by simpa using h2)
    · have f2 : decide (w ∈ [Str.ofString "and", Str.ofString "or"]) = false := decide_eq_false h2
      have h3 : w = "with" ∨ w = "without" := by
        simp [heads6] at hw2
        simp at h2
        rcases hw2 with h | h | h | h | h | h
        · exact absurd h h1
        · exact absurd h h2.1
        · exact absurd h h2.2
        · exact .inl h
        · exact .inr h
        · exact absurd h h2.1
      simp [wClI, f1, f2, -List.mem_cons, -decide_eq_true_eq]
      exact claim_with t hr hn hns hk hs ht hlw hkd hy hz hP h3
end K90
set_option Elab.async false
set_option linter.all false
set_option maxRecDepth 100000
set_option maxHeartbeats 2000000
namespace K90
open PySem PySem.Spec PyProof.Rows L2 Pu
theorem claim_step {x : PX} {row : List Int} {ns : List Str} {most deep : Int} {k : Nat} {s2 s5 : S} {s7 s8 s9 s10 s11 s12 : Option S} {P : PEnds} (t : T)
    (hr : row.length = 51) (hn : ns.length = 12) (hns : ∀ n ∈ ns, isName n = true) (hk : k < 12) (hm2 : most ≤ 60) (hs : Ls s5 t.ds) (ht : t.ok) (hw : (t.words.length : Int) ≤ most) (hp : (t.depth : Int) ≤ deep)
    (hP : ∀ (t : T) (s5 : S) (s6 s7 s8 s9 s10 s11 s12 : Option S), Ls s5 t.ds → t.ok → (t.words.length : Int) ≤ most → (t.depth : Int) ≤ deep → P.nx [some (.fz (.lst (row.map D.int))), some (.fz (W ns)), some s2, some (.fz (.int most)), some (.fz (.int deep)), some s5, s6, s7, s8, s9, s10, s11, s12]) :
    wClB P (fun c fs _ => x c fs) [some (.fz (.lst (row.map D.int))), some (.fz (W ns)), some s2, some (.fz (.int most)), some (.fz (.int deep)), some s5, some (.fz (.int k)), s7, s8, s9, s10, s11, s12] := by
  have a0 : L2.atI row (3 + 4 * (k : Int)) = some row[3 + 4 * k] := (atI_cast row (3 + 4 * k)).trans (List.getElem?_eq_getElem (by omega))
  have c4 : CMul 4 (k : Int) := cmul_l (by omega) (by omega)
  obtain ⟨w, w1, w2⟩ := mem_of_mod (xs := heads6) (i := row[3 + 4 * k]) (by decide)
  have w3 := atI_map D.str heads6 (row[3 + 4 * k] % (heads6.length : Int))
  rw [w1] at w3
  have w4 : atI [D.str "not", D.str "and", D.str "or", D.str "with", D.str "without", D.str "and"] (row[3 + 4 * k] % 6) = some (.str w) := w3
  simp [wClB, atI_map, a0, c4, w4]
  refine ⟨row, 3 + 4 * k + 1, ns, rfl, by omega, by omega, by omega, by omega, fun kd hkd y hy z hz => ?_⟩
  simp
  exact claim_if t hr hn hns hk hs ht (by omega) hkd hy hz (fun t2 s6 s7 s8 s9 s11 s12 ht2 => claim_end t t2 hs ht hw hp rfl ht2 hP) w2
theorem claim_loop {x : PX} {row : List Int} {ns : List Str} {most deep : Int} {s2 : S} {P : PEnds} (hr : row.length = 51) (hn : ns.length = 12) (hns : ∀ n ∈ ns, isName n = true) (hm2 : most ≤ 60)
    (hP : ∀ (t : T) (s5 : S) (s6 s7 s8 s9 s10 s11 s12 : Option S), Ls s5 t.ds → t.ok → (t.words.length : Int) ≤ most → (t.depth : Int) ≤ deep → P.nx [some (.fz (.lst (row.map D.int))), some (.fz (W ns)), some s2, some (.fz (.int most)), some (.fz (.int deep)), some s5, s6, s7, s8, s9, s10, s11, s12]) :
    ∀ (n k : Nat) (t : T) (s5 : S) (s6 s7 s8 s9 s10 s11 s12 : Option S), k + n ≤ 12 → Ls s5 t.ds → t.ok → (t.words.length : Int) ≤ most → (t.depth : Int) ≤ deep →
    loopF (rgName 6) wClB P (fun c fs _ => x c fs) ((List.range' k n).map fun (i : Nat) => D.int i) [some (.fz (.lst (row.map D.int))), some (.fz (W ns)), some s2, some (.fz (.int most)), some (.fz (.int deep)), some s5, s6, s7, s8, s9, s10, s11, s12]
  | 0, k, t, s5, s6, s7, s8, s9, s10, s11, s12, hk, hs, ht, hw, hp => hP t s5 s6 s7 s8 s9 s10 s11 s12 hs ht hw hp
  | n + 1, k, t, s5, s6, s7, s8, s9, s10, s11, s12, hk, hs, ht, hw, hp => by
    rw [List.range'_succ]
    refine claim_step t hr hn hns (k := k) (by omega) hm2 hs ht hw hp fun t s5 s6 s7 s8 s9 s10 s11 s12 hs ht hw hp => ?_
    exact claim_loop hr hn hns hm2 hP n (k + 1) t s5 s6 s7 s8 s9 s10 s11 s12 (by omega) hs ht hw hp
theorem ok_law_claim : ∀ ds q x, φ_law_claim ds q x → w_law_claim { nx := fun _ => q (.fz .non), rt := fun s _ => q s } (fun c fs _ => x c fs) (start 13 ds) := by
  intro ds q x h
  obtain ⟨row, ns, many, most, deep, rfl, hr, hn, hns, h0, h1, h2, h3, h4, hq⟩ := h
  obtain ⟨m, rfl⟩ : ∃ m : Nat, (m : Int) = many := ⟨many.toNat, by omega⟩
  refine ⟨row, 0, ns, rfl, by omega, by omega, by omega, by omega, fun kd hkd y hy z hz => ?_⟩
  refine ⟨by decide, small_size (by simp), ⟨by omega, by omega⟩, ?_⟩
  rw [rangeD0]
  refine claim_loop hr hn hns h3 ?_ m 0 (.leaf kd y z) _ _ _ _ _ _ _ _ (by omega) (.inr rfl) ⟨hkd, hns _ hy, hns _ hz⟩ (by simp [T.words]; omega) (by simp [T.depth]; omega)
  intro t s5 s6 s7 s8 s9 s10 s11 s12 hs ht hw hp
  have := hq t ht hw hp
  rcases hs with rfl | rfl
  · exact this
  · exact this
end K90
set_option Elab.async false
set_option linter.all false
set_option maxRecDepth 100000
set_option maxHeartbeats 2000000
namespace K90
open PySem PySem.Spec PyProof.Rows L2 Pu
def wTwoR : RS := (wRetF (rLst (rCons (rTup (rCons (rVar 4) (rCons (rIxO 0 (rC (.int 0))) (rCons (rIxO 5 (rC (.int 0))) rNil)))) (rCons (r2 fAdd (r2 fAdd (rLst (rCons (rVar 4) rNil)) (rIxO 0 (rC (.int 1)))) (rIxO 5 (rC (.int 1)))) (rCons (r2 fAdd (rC (.int 1)) (rCall fMax (rCons (rIxO 0 (rC (.int 2))) (rCons (rIxO 5 (rC (.int 2))) rNil)))) rNil)))))
def wTwo : RS := (wSeq (wIf (rOr (rT (r2 fEq (rVar 4) (rC (.str "not")))) (rOr (rT (r2 fGt (rIxO 0 (rC (.int 2))) (rC (.int 11)))) (rT (r2 fGt (rCall fLen (rCons (rIxO 0 (rC (.int 1))) rNil)) (rC (.int 56))))))
  (wRetF (rVar 0))
  wNext)
  (wSeq (wSet 5 (rFn φ_law_claim (rCons (rVar 1) (rCons (rVar 2) (rCons (rVar 3) (rCons (r2 fSub (rC (.int 59)) (rCall fLen (rCons (rIxO 0 (rC (.int 1))) rNil))) (rCons (rC (.int 11)) rNil)))))))
  wTwoR))
def wPlB : RS := (wSeq (wIf (rT (r2 fGe (rVar 2) (rLenO 0)))
  wBrk
  wNext)
  (wSeq (wApp 1 (rVar 2))
  (wIf (rT (r2 (fInB false) (rIxO 0 (rVar 2)) (rLst (rCons (rC (.str "not")) (rCons (rC (.str "and")) (rCons (rC (.str "or")) rNil))))))
  (wSet 2 (r2 fAdd (rVar 2) (rC (.int 1))))
  (wSet 2 (r2 fAdd (rVar 2) (rC (.int 3)))))))
def wTuB : RS := (wSeq (wIf (rT (r2 fEq (rLenO 1) (rC (.int 0))))
  (wRetF (rC (.bl true)))
  wNext)
  (wSeq (wPop 1 (rgName 3))
  (wIf (rT (Pu.r1 (fIsi "tuple") (rVar 3)))
  (wFrz 1 (wSet 1 (r2 fAdd (rVar 1) (rLc (riSeq (rVar 3)) (rgName 4) rYes (rVar 4) [4]))))
  (wIf (rNot (rT (Pu.r1 (fIsi "str") (rVar 3))))
  (wRetF (rC (.bl false)))
  wNext))))
def wLiB (n : Nat) : RS := (wIf (rT (Pu.r1 (fIsi "tuple") (rVar 2)))
  (wApp 1 (rFn (φ_law_listed n) (rCons (rVar 2) rNil)))
  (wApp 1 (rVar 2)))
theorem T.depth_pos (t : T) : 1 ≤ t.depth := by cases t <;> simp [T.depth]
theorem ok_law_two : ∀ ds q x, φ_law_two ds q x → w_law_two { nx := fun _ => q (.fz .non), rt := fun s _ => q s } (fun c fs _ => x c fs) (start 6 ds) := by
  intro ds q x h
  obtain ⟨l, row, ns, many, w, rfl, hr, hn, hns, h0, h1, hw, hl, h2, h3, hq⟩ := h
  show wTwo _ _ _
  simp only [wTwo, Pu.start, rVar, rC, Pu.r2, rNil, rCons, rTup, rLst, rT, rTru, rAnd, rOr, rNot, rAndV, rOrV, rNotV, rIf, rCall, roNo, roSo, rSlice, Pu.r1, rM1, rFn, riSeq, riStr, riR1, riR2, rgName, rgNil, rgCons, rgTup, rLc, rYes, wNext, wSeq, wFrz, wSet, wAsg, wDrop, wRet, wRetF, wRetN, wBrk, wCont, wIf, wFor, wWhile, wApp, wExt, wPop, wPut, peek, rLenO, rTruO, rIxO, rInO, wCallG, wRaise, rXf, rXi, rXi2, hNil, hPlain, hNamed, wTry, fI, fSub, fMul, fDiv, fMod, fPow, fLt, fLe, fGt, fGe, fAdd, fEq, fNe, fIsN, fNotN, fIx, fMulA, fNeg, fInD, fIxD]
  by_cases e1 : w = "not"
  · have f1 : (w = Str.ofString "not") = True := eq_true e1
    simp [f1]
    exact hq l hl h2 h3
  · have f1 : (w = Str.ofString "not") = False := eq_false e1
    have e2 : w = "and" ∨ w = "or" := by
      rcases hw with h | h | h
      · exact .inl h
      · exact .inr h
      · exact absurd h e1
    simp [f1, T.row, W]
    split
    · exact hq l hl h2 h3
    · split
      · exact hq l hl h2 h3
      · refine ⟨row, ns, many, 59 - (l.words.length : Int), 11, rfl, hr, hn, hns, h0, h1, by omega, by omega, by omega, fun t ht i1 i2 => ?_⟩
        simp only [wTwoR, T.row, W, rVar, rC, Pu.r2, rNil, rCons, rTup, rLst, rT, rTru, rAnd, rOr, rNot, rAndV, rOrV, rNotV, rIf, rCall, roNo, roSo, rSlice, Pu.r1, rM1, rFn, riSeq, riStr, riR1, riR2, rgName, rgNil, rgCons, rgTup, rLc, rYes, wNext, wSeq, wFrz, wSet, wAsg, wDrop, wRet, wRetF, wRetN, wBrk, wCont, wIf, wFor, wWhile, wApp, wExt, wPop, wPut, peek, rLenO, rTruO, rIxO, rInO, wCallG, wRaise, rXf, rXi, rXi2, hNil, hPlain, hNamed, wTry, fI, fSub, fMul, fDiv, fMod, fPow, fLt, fLe, fGt, fGe, fAdd, fEq, fNe, fIsN, fNotN, fIx, fMulA, fNeg, fInD, fIxD]
        simp
        refine ⟨small_size (by omega), small_size (by omega), ?_⟩
        have := hq (.two w l t) ⟨e2, hl, ht⟩ (by simp [T.words]; omega) (by simp [T.depth]; omega)
        have em : (1 + if l.depth < t.depth then (t.depth : Int) else (l.depth : Int)) = ((max l.depth t.depth + 1 : Nat) : Int) := by split <;> omega
        rw [em]
        simpa [T.row, W, T.d, T.words, T.depth] using this
theorem ok_law_deep : ∀ ds q x, φ_law_deep ds q x → w_law_deep { nx := fun _ => q (.fz .non), rt := fun s _ => q s } (fun c fs _ => x c fs) (start 3 ds) := by
  intro ds q x h
  obtain ⟨ws, m, rfl, h0, h1, hq⟩ := h
  simp only [w_law_deep, Pu.start, rVar, rC, Pu.r2, rNil, rCons, rTup, rLst, rT, rTru, rAnd, rOr, rNot, rAndV, rOrV, rNotV, rIf, rCall, roNo, roSo, rSlice, Pu.r1, rM1, rFn, riSeq, riStr, riR1, riR2, rgName, rgNil, rgCons, rgTup, rLc, rYes, wNext, wSeq, wFrz, wSet, wAsg, wDrop, wRet, wRetF, wRetN, wBrk, wCont, wIf, wFor, wWhile, wApp, wExt, wPop, wPut, peek, rLenO, rTruO, rIxO, rInO, wCallG, wRaise, rXf, rXi, rXi2, hNil, hPlain, hNamed, wTry, fI, fSub, fMul, fDiv, fMod, fPow, fLt, fLe, fGt, fGe, fAdd, fEq, fNe, fIsN, fNotN, fIx, fMulA, fNeg, fInD, fIxD]
  simp [W, rangeD0]
  refine ⟨by omega, ?_⟩
  refine lc_map (f := fun _ => .str "not") [] (fun d hd k hk => ?_) (by simp; omega) ?_
  · simp
    exact hk _ rfl
  · have e : ([] ++ List.map (fun (_ : D) => D.str "not") (List.map (fun (i : Nat) => D.int i) (List.range' 0 m))) = List.replicate m (D.str "not") := by
      rw [List.nil_append, List.map_map]
      exact List.ext_getElem (by simp) (by simp)
    rw [e]
    refine ⟨small_size (by simp; omega), ?_⟩
    simpa [W] using hq
theorem listed_loop {n : Nat} {s0 : Option S} {x : PX} : ∀ (todo acc : List D) (s2 : Option S) (P : PEnds), wordys todo = true → ddepths todo < n + 1 → dsizes todo ≤ 1000 → acc.length + todo.length ≤ 2000 → (∀ s2, P.nx [s0, some (.ls true (acc ++ listeds todo)), s2]) →
    loopF (rgName 2) (wLiB n) P (fun c fs _ => x c fs) todo [s0, some (.ls true acc), s2]
  | [], acc, s2, P, _, _, _, _, hP => by simpa [loopF, listeds] using hP s2
  | d :: todo, acc, s2, P, h0, h1, h2, h3, hP => by
    have h0' : wordy d = true ∧ wordys todo = true := by simpa [wordys] using h0
    have h1' : ddepth d < n + 1 ∧ ddepths todo < n + 1 := by simp only [ddepths] at h1; omega
    have h2' : dsize d + dsizes todo ≤ 1000 := h2
    simp only [List.length_cons] at h3
    have go : ∀ s2, loopF (rgName 2) (wLiB n) P (fun c fs _ => x c fs) todo [s0, some (.ls true (acc ++ [listed d])), s2] := fun s2 => by
      refine listed_loop todo (acc ++ [listed d]) s2 P h0'.2 h1'.2 (by omega) (by simp; omega) fun s2 => ?_
      simpa [listeds] using hP s2
    have hl : acc.length < 16777216 := by omega
    cases d <;> first | (simp [wordy] at h0'; done) | skip
    · simp only [loopF, wLiB, rVar, rC, Pu.r2, rNil, rCons, rTup, rLst, rT, rTru, rAnd, rOr, rNot, rAndV, rOrV, rNotV, rIf, rCall, roNo, roSo, rSlice, Pu.r1, rM1, rFn, riSeq, riStr, riR1, riR2, rgName, rgNil, rgCons, rgTup, rLc, rYes, wNext, wSeq, wFrz, wSet, wAsg, wDrop, wRet, wRetF, wRetN, wBrk, wCont, wIf, wFor, wWhile, wApp, wExt, wPop, wPut, peek, rLenO, rTruO, rIxO, rInO, wCallG, wRaise, rXf, rXi, rXi2, hNil, hPlain, hNamed, wTry, fI, fSub, fMul, fDiv, fMod, fPow, fLt, fLe, fGt, fGe, fAdd, fEq, fNe, fIsN, fNotN, fIx, fMulA, fNeg, fInD, fIxD]
      simp [hl]
      exact go _
    · simp only [loopF, wLiB, rVar, rC, Pu.r2, rNil, rCons, rTup, rLst, rT, rTru, rAnd, rOr, rNot, rAndV, rOrV, rNotV, rIf, rCall, roNo, roSo, rSlice, Pu.r1, rM1, rFn, riSeq, riStr, riR1, riR2, rgName, rgNil, rgCons, rgTup, rLc, rYes, wNext, wSeq, wFrz, wSet, wAsg, wDrop, wRet, wRetF, wRetN, wBrk, wCont, wIf, wFor, wWhile, wApp, wExt, wPop, wPut, peek, rLenO, rTruO, rIxO, rInO, wCallG, wRaise, rXf, rXi, rXi2, hNil, hPlain, hNamed, wTry, fI, fSub, fMul, fDiv, fMod, fPow, fLt, fLe, fGt, fGe, fAdd, fEq, fNe, fIsN, fNotN, fIx, fMulA, fNeg, fInD, fIxD]
      simp [hl]
      exact go _
    · rename_i xs
      simp only [loopF, wLiB, rVar, rC, Pu.r2, rNil, rCons, rTup, rLst, rT, rTru, rAnd, rOr, rNot, rAndV, rOrV, rNotV, rIf, rCall, roNo, roSo, rSlice, Pu.r1, rM1, rFn, riSeq, riStr, riR1, riR2, rgName, rgNil, rgCons, rgTup, rLc, rYes, wNext, wSeq, wFrz, wSet, wAsg, wDrop, wRet, wRetF, wRetN, wBrk, wCont, wIf, wFor, wWhile, wApp, wExt, wPop, wPut, peek, rLenO, rTruO, rIxO, rInO, wCallG, wRaise, rXf, rXi, rXi2, hNil, hPlain, hNamed, wTry, fI, fSub, fMul, fDiv, fMod, fPow, fLt, fLe, fGt, fGe, fAdd, fEq, fNe, fIsN, fNotN, fIx, fMulA, fNeg, fInD, fIxD]
      simp [hl]
      refine ⟨xs, rfl, by simpa [wordy] using h0'.1, by simp only [ddepth] at h1'; omega, by simp only [dsize] at h2'; omega, ?_⟩
      simp [hl]
      exact go _
theorem len_dsizes : ∀ ds : List D, ds.length ≤ dsizes ds
  | [] => by simp
  | d :: ds => by have := len_dsizes ds; have := dsize_pos d; simp only [dsizes, List.length_cons]; omega
theorem ok_law_listed (n : Nat) : ∀ ds q x, φ_law_listed (n + 1) ds q x → w_law_listed n { nx := fun _ => q (.fz .non), rt := fun s _ => q s } (fun c fs _ => x c fs) (start 3 ds) := by
  intro ds q x h
  obtain ⟨d, rfl, h0, h1, h2, hq⟩ := h
  have := len_dsizes d
  simp only [w_law_listed, Pu.start]
  simp
  refine listed_loop (n := n) (x := x) d [] none _ h0 h1 h2 (by simp; omega) fun s2 => ?_
  exact hq
mutual
def pt : D → Bool
  | .str _ => true
  | .tup xs => pts xs
  | _ => false
def pts : List D → Bool
  | [] => true
  | d :: ds => pt d && pts ds
end
theorem pts_append : ∀ xs ys : List D, pts (xs ++ ys) = (pts xs && pts ys)
  | [], _ => by simp [pts]
  | x :: xs, ys => by simp [pts, pts_append xs ys, Bool.and_assoc]
theorem pts_rev : ∀ xs : List D, pts xs.reverse = pts xs
  | [] => rfl
  | x :: xs => by rw [List.reverse_cons, pts_append, pts_rev xs]; simp [pts, Bool.and_comm]
theorem dsizes_rev : ∀ xs : List D, dsizes xs.reverse = dsizes xs
  | [] => rfl
  | x :: xs => by rw [List.reverse_cons, dsizes_append, dsizes_rev xs]; simp [dsizes]; omega
theorem tup_loop {s0 : Option S} {x : PX} : ∀ (n k : Nat) (todo : List D) (s2 s3 s4 : Option S) (P : PEnds), dsizes todo < n → dsizes todo ≤ 1000 → pts todo = true → (∀ env, P.rt (.fz (.bl true)) env) →
    loopF (rgName 2) wTuB P (fun c fs _ => x c fs) ((List.range' k n).map fun (i : Nat) => D.int i) [s0, some (.ls true todo.reverse), s2, s3, s4]
  | 0, k, todo, s2, s3, s4, P, h0, h1, h2, hP => by omega
  | n + 1, k, todo, s2, s3, s4, P, h0, h1, h2, hP => by
    rw [List.range'_succ]
    simp only [List.map_cons, loopF, wTuB, rVar, rC, Pu.r2, rNil, rCons, rTup, rLst, rT, rTru, rAnd, rOr, rNot, rAndV, rOrV, rNotV, rIf, rCall, roNo, roSo, rSlice, Pu.r1, rM1, rFn, riSeq, riStr, riR1, riR2, rgName, rgNil, rgCons, rgTup, rLc, rYes, wNext, wSeq, wFrz, wSet, wAsg, wDrop, wRet, wRetF, wRetN, wBrk, wCont, wIf, wFor, wWhile, wApp, wExt, wPop, wPut, peek, rLenO, rTruO, rIxO, rInO, wCallG, wRaise, rXf, rXi, rXi2, hNil, hPlain, hNamed, wTry, fI, fSub, fMul, fDiv, fMod, fPow, fLt, fLe, fGt, fGe, fAdd, fEq, fNe, fIsN, fNotN, fIx, fMulA, fNeg, fInD, fIxD]
    cases todo with
    | nil =>
      simp
      exact hP _
    | cons d todo =>
      have h2' : pt d = true ∧ pts todo = true := by simpa [pts] using h2
      have h0' : dsize d + dsizes todo < n + 1 := h0
      have h1' : dsize d + dsizes todo ≤ 1000 := h1
      have := dsize_pos d
      cases d <;> first | (simp [pt] at h2'; done) | skip
      · simp
        exact tup_loop n (k + 1) todo _ _ _ P (by omega) (by omega) h2'.2 hP
      · rename_i xs
        have hx : pts xs = true := by simpa [pt] using h2'.1
        simp only [dsize] at h0' h1'
        have l1 := len_dsizes xs
        have l2 := len_dsizes todo
        simp
        refine lc_map (f := fun d => d) [] (fun d hd k hk => ?_) (by simp; omega) ?_
        · simp
          exact hk _ rfl
        · simp
          refine ⟨small_size (by omega), ?_⟩
          have := tup_loop (s0 := s0) (x := x) n (k + 1) (xs.reverse ++ todo) (some (.fz (.int k))) (some (.fz (.tup xs))) s4 P (by rw [dsizes_append, dsizes_rev]; omega) (by rw [dsizes_append, dsizes_rev]; omega) (by rw [pts_append, pts_rev, hx, h2'.2]; rfl) hP
          simp at this
          exact this
theorem strs_pts : ∀ ws : List Str, pts (ws.map D.str) = true
  | [] => rfl
  | w :: ws => by simp [pts, pt, strs_pts ws]
theorem strs_dsizes : ∀ ws : List Str, dsizes (ws.map D.str) = ws.length
  | [] => rfl
  | w :: ws => by simp [dsizes, dsize, strs_dsizes ws]; omega
theorem T.pt : ∀ t : T, K90.pt t.d = true
  | .leaf k a b => rfl
  | .one hd c => by
    show pts (hd.map D.str ++ [c.d]) = true
    rw [pts_append, strs_pts]
    simp [pts, T.pt c]
  | .two w c d => by
    show pts [.str w, c.d, d.d] = true
    simp [pts, K90.pt, T.pt c, T.pt d]
theorem T.dsize_le : ∀ t : T, t.ok → dsize t.d ≤ 2 * t.words.length
  | .leaf k a b, _ => by simp [T.d, T.words, dsize, dsizes]
  | .one hd c, h => by
    have := T.dsize_le c h.2
    have hl : 1 ≤ hd.length := by
      rcases h.1 with rfl | ⟨_, _, _, rfl, _⟩ <;> simp
    show dsizes (hd.map D.str ++ [c.d]) + 1 ≤ 2 * (hd ++ c.words).length
    rw [dsizes_append, strs_dsizes, List.length_append]
    simp only [dsizes]
    omega
  | .two w c d, h => by
    have := T.dsize_le c h.2.1
    have := T.dsize_le d h.2.2
    simp [T.d, T.words, dsize, dsizes]
    omega
theorem ok_law_is_tuples : ∀ ds q x, φ_law_is_tuples ds q x → w_law_is_tuples { nx := fun _ => q (.fz .non), rt := fun s _ => q s } (fun c fs _ => x c fs) (start 5 ds) := by
  intro ds q x h
  obtain ⟨t, rfl, h0, h1, hq⟩ := h
  have h2 := t.dsize_le h0
  have h3 := t.pt
  refine ⟨by simp, ⟨by omega, by omega⟩, ?_⟩
  have e : rangeD 0 200 = _ := rangeD0 200
  rw [e]
  refine tup_loop 200 0 [t.d] _ _ _ _ (by simp [dsizes]; omega) (by simp [dsizes]; omega) (by simp [pts, h3]) fun env => ?_
  exact hq
theorem place_loop {ws : List Str} {x : PX} (hw : ws.length ≤ 100) : ∀ (n k a : Nat) (acc : List Int) (s3 : Option S) (P : PEnds), acc.length + n ≤ 1000 → (∀ s2 s3, P.nx [some (.fz (.lst (ws.map D.str))), some (.ls true ((acc ++ placesF n ws a).map D.int)), s2, s3]) →
    loopF (rgName 3) wPlB P (fun c fs _ => x c fs) ((List.range' k n).map fun (i : Nat) => D.int i) [some (.fz (.lst (ws.map D.str))), some (.ls true (acc.map D.int)), some (.fz (.int a)), s3]
  | 0, k, a, acc, s3, P, h0, hP => by simpa [loopF, placesF] using hP _ _
  | n + 1, k, a, acc, s3, P, h0, hP => by
    rw [List.range'_succ]
    simp only [List.map_cons, loopF, wPlB, rVar, rC, Pu.r2, rNil, rCons, rTup, rLst, rT, rTru, rAnd, rOr, rNot, rAndV, rOrV, rNotV, rIf, rCall, roNo, roSo, rSlice, Pu.r1, rM1, rFn, riSeq, riStr, riR1, riR2, rgName, rgNil, rgCons, rgTup, rLc, rYes, wNext, wSeq, wFrz, wSet, wAsg, wDrop, wRet, wRetF, wRetN, wBrk, wCont, wIf, wFor, wWhile, wApp, wExt, wPop, wPut, peek, rLenO, rTruO, rIxO, rInO, wCallG, wRaise, rXf, rXi, rXi2, hNil, hPlain, hNamed, wTry, fI, fSub, fMul, fDiv, fMod, fPow, fLt, fLe, fGt, fGe, fAdd, fEq, fNe, fIsN, fNotN, fIx, fMulA, fNeg, fInD, fIxD]
    by_cases hl : ws.length ≤ a
    · have := hP (some (.fz (.int a))) (some (.fz (.int k)))
      simp [placesF, hl] at this
      simp [hl]
      simpa using this
    · obtain ⟨w, hw1⟩ : ∃ w, ws[a]? = some w := ⟨_, List.getElem?_eq_getElem (by omega)⟩
      have ha : acc.length < 16777216 := by omega
      simp [hl, hw1, ha, -List.mem_cons]
      have go : ∀ b : Nat, (if (ws.getD a "") ∈ (["not", "and", "or"] : List Str) then a + 1 else a + 3) = b → loopF (rgName 3) wPlB P (fun c fs _ => x c fs) ((List.range' (k + 1) n).map fun (i : Nat) => D.int i) [some (.fz (.lst (ws.map D.str))), some (.ls true ((acc ++ [(a : Int)]).map D.int)), some (.fz (.int b)), some (.fz (.int k))] := fun b hb => by
        refine place_loop hw n (k + 1) b (acc ++ [(a : Int)]) _ P (by simp; omega) fun s2 s3 => ?_
        have := hP s2 s3
        simp only [placesF, hl, if_false, hb] at this
        simpa using this
      have hg : ws.getD a "" = w := by rw [List.getD_eq_getElem?_getD, hw1]; rfl
      rw [hg] at go
      split
      · rename_i hc
        have := go (a + 1) (if_pos (by simpa using hc))
        simp at this
        exact this
      · rename_i hc
        have := go (a + 3) (if_neg (by simpa using hc))
        simp at this
        exact this
theorem ok_law_places : ∀ ds q x, φ_law_places ds q x → w_law_places { nx := fun _ => q (.fz .non), rt := fun s _ => q s } (fun c fs _ => x c fs) (start 4 ds) := by
  intro ds q x h
  obtain ⟨ws, rfl, h0, hq⟩ := h
  refine ⟨by simp, ⟨by omega, by omega⟩, ?_⟩
  have e : rangeD 0 100 = _ := rangeD0 100
  rw [e]
  refine place_loop (by omega) 100 0 0 [] none _ (by simp) fun s2 s3 => ?_
  exact hq
theorem ok_law_fault {K : PySem.W.Frag} {B C L N : Addr} (h1 : PySem.W.exmOne K (.ref B) (.ref B) = some true) (h2 : PySem.W.kitOne K (.ref B) (.ref C) = some true) (h3 : PySem.W.kitAny K (.ref B) [.ref L, .ref N] = some false) :
    ∀ ds q x, φ_law_fault B ds q x → w_law_fault K B C L N { nx := fun _ => q (.fz .non), rt := fun s _ => q s } (fun c fs _ => x c fs) (start 2 ds) := by
  intro ds q x h
  obtain ⟨s, rfl, hs, hq⟩ := h
  refine ⟨s, rfl, hs, ?_⟩
  cases hp : parse s with
  | ok d =>
    rw [hp] at hq
    exact ⟨by decide, hq⟩
  | error n =>
    rw [hp] at hq
    refine ⟨true, h1, fun _ a d hd => ?_, fun h => by cases h⟩
    simp only [rVar, rC, Pu.r2, rNil, rCons, rTup, rLst, rT, rTru, rAnd, rOr, rNot, rAndV, rOrV, rNotV, rIf, rCall, roNo, roSo, rSlice, Pu.r1, rM1, rFn, riSeq, riStr, riR1, riR2, rgName, rgNil, rgCons, rgTup, rLc, rYes, wNext, wSeq, wFrz, wSet, wAsg, wDrop, wRet, wRetF, wRetN, wBrk, wCont, wIf, wFor, wWhile, wApp, wExt, wPop, wPut, peek, rLenO, rTruO, rIxO, rInO, wCallG, wRaise, rXf, rXi, rXi2, hNil, hPlain, hNamed, wTry, fI, fSub, fMul, fDiv, fMod, fPow, fLt, fLe, fGt, fGe, fAdd, fEq, fNe, fIsN, fNotN, fIx, fMulA, fNeg, fInD, fIxD]
    simp [h2, h3]
    exact ⟨hd (by simp), hq⟩
end K90
set_option Elab.async false
set_option linter.all false
set_option maxRecDepth 100000
set_option maxHeartbeats 2000000
namespace K90
open PySem PySem.Spec PyProof.Rows L2 Pu
open StrLaws Builtin Builtin.Str
/-! ### texts of words -/
def jl : List (List Nat) → List Nat
  | [] => []
  | [x] => x
  | x :: y :: r => x ++ 32 :: jl (y :: r)
def cl (s : Str) : List Nat := s.cps.toList
theorem cl_inj {a b : Str} (h : cl a = cl b) : a = b := by
  cases a; cases b
  unfold cl at h
  simpa [Array.toList_inj] using h
theorem cl_app (a b : Str) : cl (a ++ b) = cl a ++ cl b := by
  show (a.cps ++ b.cps).toList = _
  rw [Array.toList_append]; rfl
theorem cl_sp : cl " " = [32] := by unfold cl; rw [sp_1]
theorem cl_sp2 : cl "  " = [32, 32] := by unfold cl; rw [sp_2]
theorem cl_join : ∀ ws : List Str, cl (Txt.join " " ws) = jl (ws.map cl)
  | [] => by show cl (glued _ _) = _; rw [glued_eq_join]; rfl
  | [x] => by show cl (glued _ _) = _; rw [glued_eq_join]; rfl
  | x :: y :: r => by
    have ih := cl_join (y :: r)
    have e : Txt.join " " (y :: r) = glued " " (y :: r) := rfl
    rw [e, glued_eq_join] at ih
    show cl (glued _ _) = _
    rw [glued_eq_join]
    show cl (x ++ " " ++ Str.join " " (y :: r)) = _
    rw [cl_app, cl_app, ih, cl_sp]
    simp [jl]
/-- a good word -/
def gw (w : Str) : Prop := cl w ≠ [] ∧ 32 ∉ cl w
theorem cut_uniq {c : Nat} : ∀ {x y u v : List Nat}, c ∉ x → c ∉ y → x ++ c :: u = y ++ c :: v → x = y ∧ u = v
  | [], [], u, v, _, _, h => by simpa using h
  | [], b :: y, u, v, _, hy, h => by
    simp at h
    exact absurd (h.1 ▸ List.mem_cons_self) hy
  | a :: x, [], u, v, hx, _, h => by
    simp at h
    exact absurd (h.1 ▸ List.mem_cons_self) hx
  | a :: x, b :: y, u, v, hx, hy, h => by
    simp at h
    have := cut_uniq (fun z => hx (List.mem_cons_of_mem _ z)) (fun z => hy (List.mem_cons_of_mem _ z)) h.2
    exact ⟨by rw [h.1, this.1], this.2⟩
theorem jl_uniq : ∀ {as bs : List (List Nat)}, as ≠ [] → bs ≠ [] → (∀ a ∈ as, 32 ∉ a) → (∀ b ∈ bs, 32 ∉ b) → jl as = jl bs → as = bs
  | [], _, h, _, _, _, _ => absurd rfl h
  | _, [], _, h, _, _, _ => absurd rfl h
  | [x], [y], _, _, _, _, h => by rw [show x = y from h]
  | [x], y :: y2 :: s, _, _, hx, _, h => by
    have h : x = y ++ 32 :: jl (y2 :: s) := h
    exact absurd (by rw [h]; simp) (hx x List.mem_cons_self)
  | x :: x2 :: r, [y], _, _, _, hy, h => by
    have h : x ++ 32 :: jl (x2 :: r) = y := h
    exact absurd (by rw [← h]; simp) (hy y List.mem_cons_self)
  | x :: x2 :: r, y :: y2 :: s, _, _, hx, hy, h => by
    have h : x ++ 32 :: jl (x2 :: r) = y ++ 32 :: jl (y2 :: s) := h
    have h2 := cut_uniq (hx x List.mem_cons_self) (hy y List.mem_cons_self) h
    have h3 := jl_uniq (as := x2 :: r) (bs := y2 :: s) (by simp) (by simp) (fun a ha => hx a (List.mem_cons_of_mem _ ha)) (fun a ha => hy a (List.mem_cons_of_mem _ ha)) h2.2
    rw [h2.1, h3]
theorem map_cl_inj : ∀ {as bs : List Str}, as.map cl = bs.map cl → as = bs
  | [], [], _ => rfl
  | a :: as, b :: bs, h => by
    simp at h
    rw [cl_inj h.1, map_cl_inj h.2]
theorem split_ne (x y : Str) : Txt.split x y ≠ [] := by
  have := PyProof.Rows.split_pos x y
  intro h
  rw [h] at this
  simp at this
theorem split_join {ws : List Str} (h0 : ws ≠ []) (h : ∀ w ∈ ws, gw w) : Txt.split (Txt.join " " ws) " " = ws := by
  apply map_cl_inj
  have h1 := join_split (Txt.join " " ws) " "
  have h2 : Txt.join " " (Txt.split (Txt.join " " ws) " ") = Txt.join " " ws := by
    show glued _ _ = _
    rw [glued_eq_join]; exact h1
  have h3 := cl_join (Txt.split (Txt.join " " ws) " ")
  rw [h2, cl_join] at h3
  refine (jl_uniq (by simpa using h0) (by simpa using split_ne _ _) ?_ ?_ h3).symm
  · intro a ha
    obtain ⟨w, hw, rfl⟩ := List.mem_map.mp ha
    exact (h w hw).2
  · intro a ha
    obtain ⟨w, hw, rfl⟩ := List.mem_map.mp ha
    have := split_free (Txt.join " " ws) 32
    rw [sp_1] at hw
    rw [sp_1] at this
    exact this w hw
/-! ### spaces -/
def dbl (l : List Nat) : Prop := ∃ i : Nat, l[i]? = some 32 ∧ l[i + 1]? = some 32
theorem at_two (s : Str) (i : Nat) : At s "  " s.length i ↔ (cl s)[i]? = some 32 ∧ (cl s)[i + 1]? = some 32 := by
  have hl : s.length = (cl s).length := by simp [cl, Str.length]
  unfold At
  rw [subAt_eq, sp_2, hl]
  show (i + 2 ≤ _ ∧ ((cl s).drop i).take 2 == [32, 32]) ↔ _
  rw [beq_iff_eq]
  have e1 : (cl s)[i]? = ((cl s).drop i)[0]? := by rw [List.getElem?_drop]; rfl
  have e2 : (cl s)[i + 1]? = ((cl s).drop i)[1]? := by rw [List.getElem?_drop]
  have e3 : ((cl s).drop i).length = (cl s).length - i := List.length_drop
  rw [e1, e2]
  generalize (cl s).drop i = l at *
  cases l with
  | nil => simp
  | cons a l =>
    cases l with
    | nil => simp
    | cons b l =>
      simp at e3 ⊢
      omega
theorem find_two (s : Str) : Txt.find s "  " < 0 ↔ ¬ dbl (cl s) := by
  unfold Txt.find
  rcases occ_head s "  " 1 (Nat.le_refl 1) with ⟨h0, hn⟩ | ⟨i, r, h0, ha, _⟩
  · rw [h0]
    constructor
    · rintro _ ⟨i, hi⟩
      exact hn i ((at_two s i).mpr hi)
    · intro _
      decide
  · rw [h0]
    constructor
    · intro h
      have h : (i : Int) < 0 := h
      omega
    · intro h
      exact absurd ⟨i, (at_two s i).mp ha⟩ h
theorem isSpaced_iff (s : Str) : isSpaced s = true ↔ (cl s).head? ≠ some 32 ∧ (cl s).getLast? ≠ some 32 ∧ cl s ≠ [] ∧ ¬ dbl (cl s) := by
  unfold isSpaced
  rw [← find_two]
  unfold cl
  cases h : s.cps.toList with
  | nil => simp
  | cons c r =>
    simp only [Bool.and_eq_true, decide_eq_true_eq]
    rw [List.getLast?_eq_some_getLast (by simp)]
    simp
theorem jl_ne : ∀ {as : List (List Nat)}, as ≠ [] → (∀ a ∈ as, a ≠ [] ∧ 32 ∉ a) → ∃ c r, jl as = c :: r ∧ c ≠ 32
  | [], h, _ => absurd rfl h
  | [x], _, h => by
    have hx := h x List.mem_cons_self
    cases x with
    | nil => exact absurd rfl hx.1
    | cons c r => exact ⟨c, r, rfl, fun e => hx.2 (by rw [e]; exact List.mem_cons_self)⟩
  | x :: y :: r, _, h => by
    have hx := h x List.mem_cons_self
    cases x with
    | nil => exact absurd rfl hx.1
    | cons c s => exact ⟨c, s ++ 32 :: jl (y :: r), rfl, fun e => hx.2 (by rw [e]; exact List.mem_cons_self)⟩
theorem jl_last : ∀ {as : List (List Nat)}, as ≠ [] → (∀ a ∈ as, a ≠ [] ∧ 32 ∉ a) → (jl as).getLast? ≠ some 32
  | [], h, _ => absurd rfl h
  | [x], _, h => by
    have hx := h x List.mem_cons_self
    intro e
    exact hx.2 (List.mem_of_getLast? e)
  | x :: y :: r, _, h => by
    have ih := jl_last (as := y :: r) (by simp) (fun a ha => h a (List.mem_cons_of_mem _ ha))
    obtain ⟨c, s, e, _⟩ := jl_ne (as := y :: r) (by simp) (fun a ha => h a (List.mem_cons_of_mem _ ha))
    show (x ++ 32 :: jl (y :: r)).getLast? ≠ some 32
    rw [e] at ih ⊢
    rw [List.getLast?_append, List.getLast?_cons_cons]
    cases hh : (c :: s).getLast? with
    | none => simp at hh
    | some z => rw [hh] at ih; simpa using ih
theorem jl_dbl : ∀ {as : List (List Nat)}, (∀ a ∈ as, a ≠ [] ∧ 32 ∉ a) → ¬ dbl (jl as)
  | [], _ => by rintro ⟨i, h, _⟩; simp [jl] at h
  | [x], h => by
    rintro ⟨i, h1, _⟩
    exact (h x List.mem_cons_self).2 (List.mem_of_getElem? h1)
  | x :: y :: r, h => by
    have ih := jl_dbl (as := y :: r) (fun a ha => h a (List.mem_cons_of_mem _ ha))
    obtain ⟨c, s, e, hc⟩ := jl_ne (as := y :: r) (by simp) (fun a ha => h a (List.mem_cons_of_mem _ ha))
    rintro ⟨i, h1, h2⟩
    have h1 : (x ++ 32 :: jl (y :: r))[i]? = some 32 := h1
    have h2 : (x ++ 32 :: jl (y :: r))[i + 1]? = some 32 := h2
    by_cases hi : i < x.length
    · rw [List.getElem?_append_left hi] at h1
      exact (h x List.mem_cons_self).2 (List.mem_of_getElem? h1)
    · rw [List.getElem?_append_right (by omega)] at h1 h2
      by_cases hi2 : i = x.length
      · subst hi2
        rw [show x.length + 1 - x.length = 1 by omega] at h2
        rw [e] at h2
        simp at h2
        exact hc h2
      · refine ih ⟨i - x.length - 1, ?_, ?_⟩
        · rw [show i - x.length = (i - x.length - 1) + 1 by omega, List.getElem?_cons_succ] at h1
          exact h1
        · rw [show i + 1 - x.length = (i - x.length - 1 + 1) + 1 by omega, List.getElem?_cons_succ] at h2
          exact h2
theorem good_cl {ws : List Str} (h : ∀ w ∈ ws, gw w) : ∀ a ∈ ws.map cl, a ≠ [] ∧ 32 ∉ a := by
  intro a ha
  obtain ⟨w, hw, rfl⟩ := List.mem_map.mp ha
  exact h w hw
theorem spaced_join {ws : List Str} (h0 : ws ≠ []) (h : ∀ w ∈ ws, gw w) : isSpaced (Txt.join " " ws) = true := by
  rw [isSpaced_iff, cl_join]
  have hg := good_cl h
  obtain ⟨c, s, e, hc⟩ := jl_ne (as := ws.map cl) (by simpa using h0) hg
  refine ⟨?_, jl_last (by simpa using h0) hg, ?_, jl_dbl hg⟩
  · rw [e]; simpa using hc
  · rw [e]; simp
theorem join_ne {ws : List Str} (h0 : ws ≠ []) (h : ∀ w ∈ ws, gw w) : Txt.join " " ws ≠ "" := by
  intro e
  have h1 := cl_join ws
  obtain ⟨c, s, e2, hc⟩ := jl_ne (as := ws.map cl) (by simpa using h0) (good_cl h)
  rw [e, e2] at h1
  unfold cl at h1
  rw [sp_e] at h1
  simp at h1
theorem parse_join {ws : List Str} (h0 : ws ≠ []) (h : ∀ w ∈ ws, gw w) : parse (Txt.join " " ws) =
    if 60 < ws.length then .error 0 else match turns (ws.length + 1) ws 0 [] 0 with
    | .err n => .error n
    | .done d at_ dep => if at_ < ws.length then .error (at_ + 1) else if 12 < dep then .error 0 else .ok d := by
  unfold parse
  rw [if_neg (join_ne h0 h)]
  simp only [split_join h0 h, spaced_join h0 h]
  by_cases h6 : 60 < ws.length
  · rw [if_pos (.inr h6), if_pos h6]
  · rw [if_neg (by simp; omega), if_neg h6]
    all_goals rfl
theorem parse_unspaced {s : Str} (h0 : s ≠ "") (h : isSpaced s = false) : parse s = .error 0 := by
  unfold parse
  rw [if_neg h0]
  simp only [h]
  rw [if_pos (by simp)]
theorem parse_empty : parse "" = .error 1 := by
  unfold parse
  rw [if_pos rfl]
/-! ### replace, once -/
theorem cl_rep1 (x z : Str) (a b : List Nat) (hx : cl x = a ++ 32 :: b) (ha : 32 ∉ a) : cl (rep1 x " " z) = a ++ (cl z ++ b) := by
  have hl : x.length = (cl x).length := by simp [cl, Str.length]
  have hat : ∀ i, At x " " x.length i ↔ (cl x)[i]? = some 32 := fun i => by
    unfold At
    rw [sp_1]
    exact subAt_one x 32 i
  unfold rep1
  rcases occ_head x " " 1 (Nat.le_refl 1) with ⟨_, hn⟩ | ⟨i, r, h0, hi, hf⟩
  · refine absurd ((hat a.length).mpr ?_) (hn a.length)
    rw [hx, List.getElem?_append_right (Nat.le_refl _)]
    simp
  · have hlen := occ_length_le x " " 0 x.length 1
    rw [h0] at hlen
    have hr : r = [] := by
      cases r with
      | nil => rfl
      | cons _ _ => simp at hlen
    subst hr
    rw [h0]
    have ei : i = a.length := by
      have hi' := (hat i).mp hi
      rcases Nat.lt_trichotomy i a.length with h | h | h
      · rw [hx, List.getElem?_append_left h] at hi'
        exact absurd (List.mem_of_getElem? hi') ha
      · exact h
      · refine absurd ((hat a.length).mpr ?_) (hf a.length h)
        rw [hx, List.getElem?_append_right (Nat.le_refl _)]
        simp
    subst ei
    rw [if_neg (by simp), partsBetween_eq, glued_eq_join]
    have e1 : (" " : Str).length = 1 := by decide +kernel
    rw [e1]
    show cl (strSub x 0 a.length ++ z ++ strSub x (a.length + 1) x.length) = _
    rw [cl_app, cl_app]
    have s1 : cl (strSub x 0 a.length) = a := by
      unfold cl
      rw [strSub_toList]
      show (List.drop 0 (cl x)).take (a.length - 0) = a
      rw [hx]
      simp
    have s2 : cl (strSub x (a.length + 1) x.length) = b := by
      unfold cl
      rw [strSub_toList, hl]
      show (List.drop (a.length + 1) (cl x)).take ((cl x).length - (a.length + 1)) = b
      have e : List.drop (a.length + 1) (cl x) = b := by
        rw [hx, List.drop_append]
        simp
      rw [e, hx]
      exact List.take_of_length_le (by simp; omega)
    rw [s1, s2, List.append_assoc]
theorem not_spaced {s : Str} (h : (cl s).head? = some 32 ∨ (cl s).getLast? = some 32 ∨ dbl (cl s)) : isSpaced s = false := by
  rw [← Bool.not_eq_true, isSpaced_iff]
  rintro ⟨h1, h2, _, h3⟩
  rcases h with h | h | h
  · exact h1 h
  · exact h2 h
  · exact h3 h
theorem str_ne {s : Str} (h : cl s ≠ []) : s ≠ "" := by
  intro e
  apply h
  rw [e]
  unfold cl
  rw [sp_e]
theorem parse_sp_end (s : Str) : parse (s ++ " ") = .error 0 := by
  have e : cl (s ++ " ") = cl s ++ [32] := by rw [cl_app, cl_sp]
  exact parse_unspaced (str_ne (by rw [e]; simp)) (not_spaced (.inr (.inl (by rw [e]; simp))))
theorem parse_sp_front (s : Str) : parse (" " ++ s) = .error 0 := by
  have e : cl (" " ++ s) = 32 :: cl s := by rw [cl_app, cl_sp]; rfl
  exact parse_unspaced (str_ne (by rw [e]; simp)) (not_spaced (.inl (by rw [e]; simp)))
theorem parse_sp : parse " " = .error 0 := by
  have e : cl " " = [32] := cl_sp
  exact parse_unspaced (str_ne (by rw [e]; simp)) (not_spaced (.inl (by rw [e]; simp)))
theorem cl_rep_join {w0 w1 : Str} {rest : List Str} (z : Str) (h : gw w0) : cl (rep1 (Txt.join " " (w0 :: w1 :: rest)) " " z) = cl w0 ++ (cl z ++ jl ((w1 :: rest).map cl)) := by
  refine cl_rep1 _ z (cl w0) (jl ((w1 :: rest).map cl)) ?_ h.2
  rw [cl_join]
  rfl
theorem parse_rep2 {w0 w1 : Str} {rest : List Str} (h : gw w0) : parse (rep1 (Txt.join " " (w0 :: w1 :: rest)) " " "  ") = .error 0 := by
  have e := cl_rep_join (w1 := w1) (rest := rest) "  " h
  rw [cl_sp2] at e
  refine parse_unspaced (str_ne (by rw [e]; simp)) (not_spaced (.inr (.inr ⟨(cl w0).length, ?_, ?_⟩)))
  · rw [e, List.getElem?_append_right (Nat.le_refl _)]; simp
  · rw [e, List.getElem?_append_right (by omega), show (cl w0).length + 1 - (cl w0).length = 1 by omega]; simp
theorem jl_glue (a z : List Nat) : ∀ (b : List Nat) (r : List (List Nat)), a ++ (z ++ jl (b :: r)) = jl ((a ++ (z ++ b)) :: r)
  | b, [] => rfl
  | b, c :: r => by
    show a ++ (z ++ (b ++ 32 :: jl (c :: r))) = (a ++ (z ++ b)) ++ 32 :: jl (c :: r)
    simp
theorem rep_nl {w0 w1 : Str} {rest : List Str} (z : Str) (h : gw w0) : rep1 (Txt.join " " (w0 :: w1 :: rest)) " " z = Txt.join " " ((w0 ++ (z ++ w1)) :: rest) := by
  apply cl_inj
  rw [cl_rep_join z h, cl_join, List.map_cons, List.map_cons, jl_glue, cl_app, cl_app]
theorem jl_snoc (z : List Nat) : ∀ (ws : List (List Nat)) (b : List Nat), jl (ws ++ [b]) ++ z = jl (ws ++ [b ++ z])
  | [], b => rfl
  | [a], b => by show (a ++ 32 :: b) ++ z = a ++ 32 :: (b ++ z); simp
  | a :: c :: ws, b => by
    have ih := jl_snoc z (c :: ws) b
    show (a ++ 32 :: jl ((c :: ws) ++ [b])) ++ z = a ++ 32 :: jl ((c :: ws) ++ [b ++ z])
    rw [← ih]
    simp
theorem join_end {ws : List Str} (b z : Str) : Txt.join " " (ws ++ [b]) ++ z = Txt.join " " (ws ++ [b ++ z]) := by
  apply cl_inj
  rw [cl_app, cl_join, cl_join, List.map_append, List.map_append]
  simp only [List.map_cons, List.map_nil]
  rw [jl_snoc, cl_app]
theorem join_more {ws : List Str} (h : ws ≠ []) (b : Str) : Txt.join " " ws ++ " " ++ b = Txt.join " " (ws ++ [b]) := by
  apply cl_inj
  rw [cl_app, cl_app, cl_sp, cl_join, cl_join, List.map_append]
  have : ∀ as : List (List Nat), as ≠ [] → ∀ b, jl as ++ [32] ++ b = jl (as ++ [b]) := by
    intro as
    induction as with
    | nil => intro h; exact absurd rfl h
    | cons a r ih =>
      intro _ b
      cases r with
      | nil => simp [jl]
      | cons c r =>
        have := ih (by simp) b
        show a ++ 32 :: jl (c :: r) ++ [32] ++ b = a ++ 32 :: jl ((c :: r) ++ [b])
        rw [← this]
        simp
  exact this _ (by simpa using h) _
end K90
set_option Elab.async false
set_option linter.all false
set_option maxRecDepth 100000
set_option maxHeartbeats 2000000
namespace K90
open PySem PySem.Spec PyProof.Rows L2 Pu
/-! ### the parser on the words of a claim -/
def T.heads : T → Nat
  | .leaf _ _ _ => 1
  | .one _ c => c.heads + 1
  | .two _ c d => c.heads + d.heads + 1
def T.places : T → List Nat
  | .leaf _ _ _ => [0]
  | .one hd c => 0 :: c.places.map (· + hd.length)
  | .two _ c d => 0 :: (c.places.map (· + 1) ++ d.places.map (· + (1 + c.words.length)))
theorem T.heads_le : ∀ t : T, t.ok → t.heads ≤ t.words.length
  | .leaf _ _ _, _ => by simp [T.heads, T.words]
  | .one hd c, h => by
    have := T.heads_le c h.2
    have hl : 1 ≤ hd.length := by
      rcases h.1 with rfl | ⟨_, _, _, rfl, _⟩ <;> simp
    simp only [T.heads, T.words, List.length_append]
    omega
  | .two w c d, h => by
    have := T.heads_le c h.2.1
    have := T.heads_le d h.2.2
    simp only [T.heads, T.words, List.length_append, List.length_cons]
    omega
theorem T.words_len : ∀ t : T, t.ok → 3 ≤ t.words.length
  | .leaf _ _ _, _ => by simp [T.words]
  | .one hd c, h => by
    have := T.words_len c h.2
    simp only [T.words, List.length_append]; omega
  | .two w c d, h => by
    have := T.words_len c h.2.1
    simp only [T.words, List.length_append, List.length_cons]; omega
theorem T.places_lt : ∀ t : T, t.ok → ∀ p ∈ t.places, p + 2 < t.words.length
  | .leaf _ _ _, _, p, hp => by simp [T.places] at hp; subst hp; simp [T.words]
  | .one hd c, h, p, hp => by
    have hc := T.places_lt c h.2
    have hl : 3 ≤ c.words.length := by cases c.places with
      | nil => exact T.words_len c h.2
      | cons _ _ => exact T.words_len c h.2
    simp only [T.places, List.mem_cons, List.mem_map] at hp
    simp only [T.words, List.length_append]
    rcases hp with rfl | ⟨i, hi, rfl⟩
    · omega
    · have := hc i hi; omega
  | .two w c d, h, p, hp => by
    have hc := T.places_lt c h.2.1
    have hd := T.places_lt d h.2.2
    have l1 := T.words_len c h.2.1
    have l2 := T.words_len d h.2.2
    simp only [T.places, List.mem_cons, List.mem_append, List.mem_map] at hp
    simp only [T.words, List.length_append, List.length_cons]
    rcases hp with rfl | ⟨i, hi, rfl⟩ | ⟨i, hi, rfl⟩
    · omega
    · have := hc i hi; omega
    · have := hd i hi; omega
/-- the words from a place on begin with some -/
def Agr (ws : List Str) (a : Nat) (us : List Str) : Prop := ∀ (i : Nat) (u : Str), us[i]? = some u → ws[a + i]? = some u
theorem Agr.left {ws : List Str} {a : Nat} {us vs : List Str} (h : Agr ws a (us ++ vs)) : Agr ws a us := fun i u hu => h i u (by
  rw [List.getElem?_append_left (List.getElem?_eq_some_iff.mp hu).1]; exact hu)
theorem Agr.right {ws : List Str} {a : Nat} {us vs : List Str} (h : Agr ws a (us ++ vs)) : Agr ws (a + us.length) vs := fun i u hu => by
  have := h (us.length + i) u (by rw [List.getElem?_append_right (by omega), show us.length + i - us.length = i by omega]; exact hu)
  rw [show a + us.length + i = a + (us.length + i) by omega]
  exact this
theorem kind_named {k : Str} (h : k ∈ kinds7) : isNamed k = true ∧ isHold k = false := by
  have : ∀ k ∈ kinds7, isNamed k = true ∧ isHold k = false := by decide +kernel
  exact this k h
theorem nameAt_ok' {ws : List Str} {p : Nat} {a : Str} (h : ws[p]? = some a) (ha : isName a = true) : nameAt ws p = .ok a := by
  unfold nameAt
  rw [h]
  simp [ha]
theorem firstWord_named {ws : List Str} {p : Nat} {a : Str} (h : ws[p]? = some a) (ha : isNamed a = true) : firstWord ws p = .ok a := by
  unfold firstWord
  rw [h]
  simp [ha]
theorem firstWord_hold {ws : List Str} {p : Nat} {a : Str} (h : ws[p]? = some a) (ha : isHold a = true) : firstWord ws p = .ok a := by
  unfold firstWord
  rw [h]
  simp [ha]
theorem head3 {ws : List Str} {a : Nat} {k x y : Str} (h : Agr ws a [k, x, y]) (hk : isNamed k = true) (hx : isName x = true) (hy : isName y = true) : claimHead ws a = .ok ([k, x, y], a + 3) := by
  unfold claimHead
  have e0 : ws[a]? = some k := h 0 k rfl
  have e1 := h 1 x rfl
  have e2 := h 2 y rfl
  rw [firstWord_named e0 hk]
  simp [Bind.bind, Except.bind, Pure.pure, Except.pure, hk, nameAt_ok' e1 hx, nameAt_ok' e2 hy]
theorem head1 {ws : List Str} {a : Nat} {k : Str} (h : Agr ws a [k]) (hk : isNamed k = false) (hh : isHold k = true) : claimHead ws a = .ok ([k], a + 1) := by
  unfold claimHead
  have e0 : ws[a]? = some k := h 0 k rfl
  rw [firstWord_hold e0 hh]
  simp [Bind.bind, Except.bind, Pure.pure, Except.pure, hk]
theorem not_f : isNamed "not" = false ∧ isHold "not" = true ∧ count "not" = 1 := by decide +kernel
theorem and_f : isNamed "and" = false ∧ isHold "and" = true ∧ count "and" = 2 := by decide +kernel
theorem or_f : isNamed "or" = false ∧ isHold "or" = true ∧ count "or" = 2 := by decide +kernel
theorem with_f : isNamed "with" = true ∧ isHold "with" = true ∧ count "with" = 1 := by decide +kernel
theorem without_f : isNamed "without" = true ∧ isHold "without" = true ∧ count "without" = 1 := by decide +kernel
/-- a head of one claim inside -/
def Hd1 (hd : List Str) : Prop := hd = (["not"] : List Str) ∨ ∃ w a b, hd = [w, a, b] ∧ (w = "with" ∨ w = "without") ∧ isName a = true ∧ isName b = true
theorem hd1_head {ws : List Str} {a : Nat} {hd : List Str} (h : Hd1 hd) (g : Agr ws a hd) : ∃ h0 r, hd = h0 :: r ∧ isHold h0 = true ∧ count h0 = 1 ∧ claimHead ws a = .ok (hd, a + hd.length) := by
  rcases h with rfl | ⟨w, x, y, rfl, hw, hx, hy⟩
  · exact ⟨_, _, rfl, not_f.2.1, not_f.2.2, head1 g not_f.1 not_f.2.1⟩
  · rcases hw with rfl | rfl
    · exact ⟨_, _, rfl, with_f.2.1, with_f.2.2, head3 g with_f.1 hx hy⟩
    · exact ⟨_, _, rfl, without_f.2.1, without_f.2.2, head3 g without_f.1 hx hy⟩
theorem hd2_head {ws : List Str} {a : Nat} {w : Str} (h : w = "and" ∨ w = "or") (g : Agr ws a [w]) : isHold w = true ∧ count w = 2 ∧ claimHead ws a = .ok ([w], a + 1) := by
  rcases h with rfl | rfl
  · exact ⟨and_f.2.1, and_f.2.2, head1 g and_f.1 and_f.2.1⟩
  · exact ⟨or_f.2.1, or_f.2.2, head1 g or_f.1 or_f.2.1⟩
def after (f : Nat) (ws : List Str) (at_ dep : Nat) : Option D × List Fr → PR
  | (some d, _) => .done d at_ dep
  | (none, w2) => turns f ws at_ w2 dep
theorem turns_tree : ∀ (t : T), t.ok → ∀ (ws : List Str) (a : Nat) (w : List Fr) (dep f : Nat), Agr ws a t.words →
    turns (t.heads + f) ws a w dep = after f ws (a + t.words.length) (max dep (w.length + t.depth)) (foldUp w t.d)
  | .leaf k x y, h, ws, a, w, dep, f, g => by
    have kn := kind_named h.1
    have e := head3 g kn.1 h.2.1 h.2.2
    show turns (1 + f) ws a w dep = _
    rw [Nat.add_comm 1 f]
    unfold turns
    rw [e]
    simp only [kn.2, Bool.false_eq_true, if_false]
    show (match foldUp w (.tup [.str k, .str x, .str y]) with | (some d, _) => PR.done d (a + 3) (max dep (w.length + 1)) | (none, w2) => turns f ws (a + 3) w2 (max dep (w.length + 1))) = after f ws (a + 3) (max dep (w.length + 1)) (foldUp w (.tup [.str k, .str x, .str y]))
    rcases foldUp w (.tup [.str k, .str x, .str y]) with ⟨_ | d, w2⟩ <;> rfl
  | .one hd c, h, ws, a, w, dep, f, g => by
    have g1 : Agr ws a hd := Agr.left (vs := c.words) g
    have g2 : Agr ws (a + hd.length) c.words := Agr.right (us := hd) g
    obtain ⟨h0, r, e0, hh, hc, e⟩ := hd1_head h.1 g1
    show turns (c.heads + 1 + f) ws a w dep = _
    rw [show c.heads + 1 + f = (c.heads + f) + 1 by omega]
    unfold turns
    rw [e]
    subst e0
    simp only [hh, if_true, hc]
    rw [turns_tree c h.2 ws _ _ _ f g2]
    show after f ws _ _ (foldUp ((h0 :: r, 1, []) :: w) c.d) = after f ws _ _ (foldUp w (.tup ((h0 :: r).map D.str ++ [c.d])))
    have e2 : foldUp ((h0 :: r, 1, []) :: w) c.d = foldUp w (.tup ((h0 :: r).map D.str ++ [c.d])) := by
      conv => lhs; unfold foldUp
      rfl
    rw [e2]
    have e3 : a + (h0 :: r).length + c.words.length = a + (T.one (h0 :: r) c).words.length := by simp [T.words]; omega
    have e4 : max (max dep (w.length + 1)) (((h0 :: r, 1, []) :: w : List Fr).length + c.depth) = max dep (w.length + (T.one (h0 :: r) c).depth) := by simp [T.depth]; omega
    rw [e3, e4]
  | .two wd c d, h, ws, a, w, dep, f, g => by
    have g0 : Agr ws a ([wd] ++ (c.words ++ d.words)) := g
    have g1 : Agr ws a [wd] := g0.left
    have g2 : Agr ws (a + 1) c.words := (g0.right).left
    have g3 : Agr ws (a + 1 + c.words.length) d.words := (g0.right).right
    obtain ⟨hh, hc, e⟩ := hd2_head h.1 g1
    show turns (c.heads + d.heads + 1 + f) ws a w dep = _
    rw [show c.heads + d.heads + 1 + f = (c.heads + (d.heads + f)) + 1 by omega]
    unfold turns
    rw [e]
    simp only [hh, if_true, hc]
    rw [turns_tree c h.2.1 ws _ _ _ (d.heads + f) g2]
    have e1 : foldUp (([wd], 2, []) :: w) c.d = (none, ([wd], 2, [c.d]) :: w) := rfl
    rw [e1]
    show turns (d.heads + f) ws _ _ _ = _
    rw [turns_tree d h.2.2 ws _ _ _ f g3]
    have e2 : foldUp (([wd], 2, [c.d]) :: w) d.d = foldUp w (.tup [.str wd, c.d, d.d]) := by
      conv => lhs; unfold foldUp
      rfl
    rw [e2]
    show after f ws _ _ _ = after f ws _ _ (foldUp w (.tup [.str wd, c.d, d.d]))
    have e3 : a + 1 + c.words.length + d.words.length = a + (T.two wd c d).words.length := by simp [T.words]; omega
    have e4 : max (max (max dep (w.length + 1)) ((([wd], 2, []) :: w : List Fr).length + c.depth)) ((([wd], 2, [c.d]) :: w : List Fr).length + d.depth) = max dep (w.length + (T.two wd c d).depth) := by simp [T.depth]; omega
    rw [e3, e4]
theorem ch_bad0 {ws : List Str} {a n : Nat} (h : firstWord ws a = .error n) : claimHead ws a = .error n := by
  unfold claimHead
  rw [h]; rfl
theorem ch_bad1 {ws : List Str} {a n : Nat} {k : Str} (h0 : ws[a]? = some k) (hk : isNamed k = true) (h : nameAt ws (a + 1) = .error n) : claimHead ws a = .error n := by
  unfold claimHead
  rw [firstWord_named h0 hk]
  simp [Bind.bind, Except.bind, hk, h]
theorem ch_bad2 {ws : List Str} {a n : Nat} {k x : Str} (h0 : ws[a]? = some k) (hk : isNamed k = true) (h1 : ws[a + 1]? = some x) (hx : isName x = true) (h : nameAt ws (a + 2) = .error n) : claimHead ws a = .error n := by
  unfold claimHead
  rw [firstWord_named h0 hk]
  simp [Bind.bind, Except.bind, hk, h, nameAt_ok' h1 hx]
theorem turns_err {ws : List Str} {a n f dep : Nat} {w : List Fr} (h : claimHead ws a = .error n) : turns (f + 1) ws a w dep = .err n := by
  unfold turns
  rw [h]
theorem take_app {α : Type} (us vs : List α) (j : Nat) (h : us.length ≤ j) : (us ++ vs).take j = us ++ vs.take (j - us.length) := by
  rw [List.take_append, List.take_of_length_le h]
/-- a head of three words, wrong at j -/
theorem head3_bad {ws : List Str} {a j : Nat} {k x y : Str} {rest : List Str} {P : Prop} (hj : j < 3) (g : Agr ws a (([k, x, y] ++ rest).take j)) (hk : isNamed k = true) (hx : isName x = true)
    (h0 : j = 0 → firstWord ws (a + j) = .error (a + j + 1)) (h1 : 0 < j → nameAt ws (a + j) = .error (a + j + 1)) : claimHead ws a = .error (a + j + 1) := by
  match j, hj with
  | 0, _ => exact ch_bad0 (h0 rfl)
  | 1, _ => exact ch_bad1 (g 0 k rfl) hk (h1 (by omega))
  | 2, _ => exact ch_bad2 (g 0 k rfl) hk (g 1 x rfl) hx (h1 (by omega))
/-- the first wrong word, at j -/
theorem turns_bad : ∀ (t : T), t.ok → ∀ (ws : List Str) (a : Nat) (w : List Fr) (dep f j : Nat), j < t.words.length → Agr ws a (t.words.take j) → (j ∈ t.places → firstWord ws (a + j) = .error (a + j + 1)) → (j ∉ t.places → nameAt ws (a + j) = .error (a + j + 1)) →
    turns (t.heads + f) ws a w dep = .err (a + j + 1)
  | .leaf k x y, h, ws, a, w, dep, f, j, hj, g, h0, h1 => by
    have kn := kind_named h.1
    show turns (1 + f) ws a w dep = _
    rw [Nat.add_comm 1 f]
    exact turns_err (head3_bad (P := True) (rest := []) hj g kn.1 h.2.1 (fun e => h0 (by rw [e]; exact List.mem_cons_self)) (fun e => h1 (by simp [T.places]; omega)))
  | .one hd c, h, ws, a, w, dep, f, j, hj, g, h0, h1 => by
    show turns (c.heads + 1 + f) ws a w dep = _
    rw [show c.heads + 1 + f = (c.heads + f) + 1 by omega]
    by_cases hl : j < hd.length
    · refine turns_err ?_
      have hn : 0 < j → j ∉ (T.one hd c).places := by
        intro h0 hm
        simp only [T.places, List.mem_cons, List.mem_map] at hm
        rcases hm with e | ⟨i, _, e⟩ <;> omega
      rcases h.1 with rfl | ⟨wd, x, y, rfl, hw, hx, hy⟩
      · have e : j = 0 := by simpa using hl
        subst e
        exact ch_bad0 (h0 List.mem_cons_self)
      · have hk : isNamed wd = true := by
          rcases hw with rfl | rfl
          · exact with_f.1
          · exact without_f.1
        exact head3_bad (P := True) (rest := c.words) hl g hk hx (fun e => h0 (by rw [e]; exact List.mem_cons_self)) (fun e => h1 (hn e))
    · have hj' : j < (hd ++ c.words).length := hj
      rw [List.length_append] at hj'
      have g' : Agr ws a ((hd ++ c.words).take j) := g
      rw [take_app hd c.words j (by omega)] at g'
      obtain ⟨hd0, r, e0, hh, hc, e⟩ := hd1_head h.1 g'.left
      have hl1 : 1 ≤ hd.length := by rw [e0]; simp
      unfold turns
      rw [e]
      have em : j ∈ (T.one hd c).places ↔ j - hd.length ∈ c.places := by
        simp only [T.places, List.mem_cons, List.mem_map]
        constructor
        · rintro (e | ⟨i, hi, e⟩)
          · omega
          · rw [show j - hd.length = i by omega]; exact hi
        · intro hi
          exact .inr ⟨_, hi, by omega⟩
      have ea : a + hd.length + (j - hd.length) = a + j := by omega
      have ih := turns_bad c h.2 ws (a + hd.length) ((hd, 1, []) :: w) (max dep (w.length + 1)) f (j - hd.length) (by omega) g'.right (fun m => by rw [ea]; exact h0 (em.mpr m)) (fun m => by rw [ea]; exact h1 (fun z => m (em.mp z)))
      rw [ea] at ih
      subst e0
      simp only [hh, if_true, hc]
      exact ih
  | .two wd c d, h, ws, a, w, dep, f, j, hj, g, h0, h1 => by
    show turns (c.heads + d.heads + 1 + f) ws a w dep = _
    rw [show c.heads + d.heads + 1 + f = (c.heads + (d.heads + f)) + 1 by omega]
    have hj' : j < ([wd] ++ (c.words ++ d.words)).length := hj
    simp only [List.length_append, List.length_singleton] at hj'
    have g' : Agr ws a (([wd] ++ (c.words ++ d.words)).take j) := g
    by_cases hl : j = 0
    · subst hl
      exact turns_err (ch_bad0 (h0 List.mem_cons_self))
    · rw [take_app [wd] _ j (by simp; omega)] at g'
      obtain ⟨hh, hc, e⟩ := hd2_head h.1 g'.left
      unfold turns
      rw [e]
      simp only [hh, if_true, hc]
      have g2 : Agr ws (a + 1) ((c.words ++ d.words).take (j - 1)) := g'.right
      by_cases hl2 : j - 1 < c.words.length
      · have em : j ∈ (T.two wd c d).places ↔ j - 1 ∈ c.places := by
          simp only [T.places, List.mem_cons, List.mem_append, List.mem_map]
          constructor
          · rintro (e | ⟨i, hi, e⟩ | ⟨i, hi, e⟩)
            · omega
            · rw [show j - 1 = i by omega]; exact hi
            · omega
          · intro hi
            exact .inr (.inl ⟨_, hi, by omega⟩)
        have ea : a + 1 + (j - 1) = a + j := by omega
        have g3 : Agr ws (a + 1) (c.words.take (j - 1)) := by
          rw [List.take_append_of_le_length (by omega)] at g2
          exact g2
        have ih := turns_bad c h.2.1 ws (a + 1) (([wd], 2, []) :: w) (max dep (w.length + 1)) (d.heads + f) (j - 1) hl2 g3 (fun m => by rw [ea]; exact h0 (em.mpr m)) (fun m => by rw [ea]; exact h1 (fun z => m (em.mp z)))
        rw [ea] at ih
        exact ih
      · rw [take_app c.words d.words (j - 1) (by omega)] at g2
        have em : j ∈ (T.two wd c d).places ↔ j - 1 - c.words.length ∈ d.places := by
          simp only [T.places, List.mem_cons, List.mem_append, List.mem_map]
          constructor
          · rintro (e | ⟨i, hi, e⟩ | ⟨i, hi, e⟩)
            · omega
            · exact absurd (c.places_lt h.2.1 i hi) (by omega)
            · rw [show j - 1 - c.words.length = i by omega]; exact hi
          · intro hi
            exact .inr (.inr ⟨_, hi, by omega⟩)
        have ea : a + 1 + c.words.length + (j - 1 - c.words.length) = a + j := by omega
        rw [turns_tree c h.2.1 ws (a + 1) _ _ (d.heads + f) g2.left]
        have e1 : foldUp (([wd], 2, []) :: w) c.d = (none, ([wd], 2, [c.d]) :: w) := rfl
        rw [e1]
        have ih := turns_bad d h.2.2 ws (a + 1 + c.words.length) (([wd], 2, [c.d]) :: w) (max (max dep (w.length + 1)) ((([wd], 2, []) :: w : List Fr).length + c.depth)) f (j - 1 - c.words.length) (by omega) g2.right (fun m => by rw [ea]; exact h0 (em.mpr m)) (fun m => by rw [ea]; exact h1 (fun z => m (em.mp z)))
        rw [ea] at ih
        exact ih
end K90
set_option Elab.async false
set_option linter.all false
set_option maxRecDepth 100000
set_option maxHeartbeats 2000000
namespace K90
open PySem PySem.Spec PyProof.Rows L2 Pu
/-! ### fuel -/
theorem firstWord_lt {ws : List Str} {a : Nat} {w : Str} (h : firstWord ws a = .ok w) : a < ws.length := by
  unfold firstWord at h
  cases e : ws[a]? with
  | none => rw [e] at h; cases h
  | some v => exact (List.getElem?_eq_some_iff.mp e).1
theorem nameAt_lt {ws : List Str} {a : Nat} {w : Str} (h : nameAt ws a = .ok w) : a < ws.length := by
  unfold nameAt at h
  cases e : ws[a]? with
  | none => rw [e] at h; cases h
  | some v => exact (List.getElem?_eq_some_iff.mp e).1
theorem claimHead_adv {ws : List Str} {a at2 : Nat} {hd : List Str} (h : claimHead ws a = .ok (hd, at2)) : a < at2 ∧ at2 ≤ ws.length := by
  unfold claimHead at h
  cases e : firstWord ws a with
  | error n => rw [e] at h; cases h
  | ok w =>
    have l0 := firstWord_lt e
    rw [e] at h
    simp only [Bind.bind, Except.bind] at h
    split at h
    · cases e1 : nameAt ws (a + 1) with
      | error n => rw [e1] at h; cases h
      | ok x =>
        rw [e1] at h
        cases e2 : nameAt ws (a + 2) with
        | error n => rw [e2] at h; cases h
        | ok y =>
          have l2 := nameAt_lt e2
          rw [e2] at h
          simp [Pure.pure, Except.pure] at h
          omega
    · simp [Pure.pure, Except.pure] at h
      omega
theorem turns_fuel {ws : List Str} : ∀ (f g a : Nat) (w : List Fr) (dep : Nat), a ≤ ws.length → ws.length + 1 ≤ a + f → f ≤ g → turns f ws a w dep = turns g ws a w dep
  | 0, _, a, _, _, h0, h1, _ => by omega
  | _ + 1, 0, _, _, _, _, _, h2 => by omega
  | f + 1, g + 1, a, w, dep, h0, h1, h2 => by
    unfold turns
    cases e : claimHead ws a with
    | error n => rfl
    | ok p =>
      obtain ⟨hd, at2⟩ := p
      have adv := claimHead_adv e
      have go : ∀ w dep, turns f ws at2 w dep = turns g ws at2 w dep := fun w dep => turns_fuel f g at2 w dep adv.2 (by omega) (by omega)
      simp only [go]
theorem turns_more {ws : List Str} (n : Nat) : turns (ws.length + 1) ws 0 [] 0 = turns (n + (ws.length + 1)) ws 0 [] 0 := turns_fuel _ _ 0 [] 0 (Nat.zero_le _) (by omega) (by omega)
theorem turns_whole {t : T} (h : t.ok) {ws : List Str} (g : Agr ws 0 t.words) : turns (ws.length + 1) ws 0 [] 0 = .done t.d t.words.length t.depth := by
  rw [turns_more t.heads, turns_tree t h ws 0 [] 0 _ g]
  show PR.done t.d (0 + t.words.length) (max 0 (0 + t.depth)) = _
  rw [Nat.zero_add, Nat.zero_add, Nat.zero_max]
/-! ### what the strings of a claim bring -/
theorem Agr.app (us vs : List Str) : Agr (us ++ vs) 0 us := fun i u hu => by
  rw [Nat.zero_add, List.getElem?_append_left (List.getElem?_eq_some_iff.mp hu).1]; exact hu
theorem Agr.self (us : List Str) : Agr us 0 us := fun i u hu => by rw [Nat.zero_add]; exact hu
theorem parse_long {ws : List Str} (h : ∀ w ∈ ws, gw w) (hl : 60 < ws.length) : parse (Txt.join " " ws) = .error 0 := by
  rw [parse_join (by intro e; subst e; simp at hl) h, if_pos hl]
theorem parse_whole {t : T} (h : t.ok) (hg : ∀ w ∈ t.words, gw w) (hl : t.words.length ≤ 60) (hd : t.depth ≤ 12) : parse (Txt.join " " t.words) = .ok t.d := by
  have hn : t.words ≠ [] := by
    have := t.words_len h
    intro e
    rw [e] at this
    simp at this
  rw [parse_join hn hg, if_neg (by omega), turns_whole h (Agr.self _)]
  simp only []
  rw [if_neg (by omega), if_neg (by omega)]
theorem parse_deep {t : T} (h : t.ok) (hg : ∀ w ∈ t.words, gw w) (hd : 12 < t.depth) : parse (Txt.join " " t.words) = .error 0 := by
  have hn : t.words ≠ [] := by
    have := t.words_len h
    intro e
    rw [e] at this
    simp at this
  rw [parse_join hn hg]
  split
  · rfl
  · rw [turns_whole h (Agr.self _)]
    simp only []
    rw [if_neg (by omega), if_pos hd]
theorem parse_over {t : T} {x : Str} (h : t.ok) (hg : ∀ w ∈ t.words, gw w) (hx : gw x) (hl : t.words.length < 60) : parse (Txt.join " " (t.words ++ [x])) = .error (t.words.length + 1) := by
  rw [parse_join (by simp) (by
    intro w hw
    rcases List.mem_append.mp hw with hw | hw
    · exact hg w hw
    · rw [List.mem_singleton.mp hw]; exact hx), if_neg (by simp; omega), turns_whole h (Agr.app _ _)]
  simp only []
  rw [if_pos (by simp)]
theorem parse_wrong {t : T} {ws : List Str} {j : Nat} (h : t.ok) (hn : ws ≠ []) (hg : ∀ w ∈ ws, gw w) (hl : ws.length ≤ 60) (hj : j < t.words.length) (g : Agr ws 0 (t.words.take j)) (h0 : j ∈ t.places → firstWord ws j = .error (j + 1)) (h1 : j ∉ t.places → nameAt ws j = .error (j + 1)) :
    parse (Txt.join " " ws) = .error (j + 1) := by
  have := turns_bad t h ws 0 [] 0 (ws.length + 1) j hj g (by rw [Nat.zero_add]; exact h0) (by rw [Nat.zero_add]; exact h1)
  rw [Nat.zero_add] at this
  rw [parse_join hn hg, if_neg (by omega), turns_more t.heads, this]
theorem first_none {ws : List Str} {j : Nat} (h : ws[j]? = none) : firstWord ws j = .error (j + 1) := by unfold firstWord; rw [h]
theorem name_none {ws : List Str} {j : Nat} (h : ws[j]? = none) : nameAt ws j = .error (j + 1) := by unfold nameAt; rw [h]
theorem first_bad {ws : List Str} {j : Nat} {b : Str} (h : ws[j]? = some b) (h1 : isNamed b = false) (h2 : isHold b = false) : firstWord ws j = .error (j + 1) := by unfold firstWord; rw [h]; simp [h1, h2]
theorem name_bad {ws : List Str} {j : Nat} {b : Str} (h : ws[j]? = some b) (h1 : isName b = false) : nameAt ws j = .error (j + 1) := by unfold nameAt; rw [h]; simp [h1]
/-- one word put in another's place -/
def put (ws : List Str) (j : Nat) (b : Str) : List Str := ws.take j ++ [b] ++ ws.drop (j + 1)
theorem put_at {ws : List Str} {j : Nat} {b : Str} (h : j < ws.length) : (put ws j b)[j]? = some b := by
  unfold put
  rw [List.append_assoc, List.getElem?_append_right (by rw [List.length_take]; omega), List.length_take, Nat.min_eq_left (by omega), Nat.sub_self]
  rfl
theorem put_agr (ws : List Str) (j : Nat) (b : Str) : Agr (put ws j b) 0 (ws.take j) := by
  unfold put
  rw [List.append_assoc]
  exact Agr.app _ _
theorem put_len {ws : List Str} {j : Nat} {b : Str} (h : j < ws.length) : (put ws j b).length = ws.length := by
  unfold put
  simp
  omega
theorem put_gw {ws : List Str} {j : Nat} {b : Str} (h : ∀ w ∈ ws, gw w) (hb : gw b) : ∀ w ∈ put ws j b, gw w := by
  intro w hw
  unfold put at hw
  rcases List.mem_append.mp hw with hw | hw
  · rcases List.mem_append.mp hw with hw | hw
    · exact h w (List.mem_of_mem_take hw)
    · rw [List.mem_singleton.mp hw]; exact hb
  · exact h w (List.mem_of_mem_drop hw)
theorem put_ne {ws : List Str} {j : Nat} {b : Str} : put ws j b ≠ [] := by unfold put; simp
theorem parse_head {t : T} {j : Nat} {b : Str} (h : t.ok) (hg : ∀ w ∈ t.words, gw w) (hl : t.words.length ≤ 60) (hj : j ∈ t.places) (hb : gw b) (h1 : isNamed b = false) (h2 : isHold b = false) : parse (Txt.join " " (put t.words j b)) = .error (j + 1) := by
  have hj' : j < t.words.length := by have := t.places_lt h j hj; omega
  exact parse_wrong h put_ne (put_gw hg hb) (by rw [put_len hj']; exact hl) hj' (put_agr _ _ _) (fun _ => first_bad (put_at hj') h1 h2) (fun z => absurd hj z)
theorem parse_spot {t : T} {j : Nat} {b : Str} (h : t.ok) (hg : ∀ w ∈ t.words, gw w) (hl : t.words.length ≤ 60) (hj' : j < t.words.length) (hj : j ∉ t.places) (hb : gw b) (h1 : isName b = false) : parse (Txt.join " " (put t.words j b)) = .error (j + 1) :=
  parse_wrong h put_ne (put_gw hg hb) (by rw [put_len hj']; exact hl) hj' (put_agr _ _ _) (fun z => absurd z hj) (fun _ => name_bad (put_at hj') h1)
theorem parse_cut {t : T} {j : Nat} (h : t.ok) (hg : ∀ w ∈ t.words, gw w) (hj : j < t.words.length) (hl : j ≤ 60) : parse (Txt.join " " (t.words.take j)) = .error (j + 1) := by
  by_cases h0 : j = 0
  · subst h0
    have e : Txt.join " " (t.words.take 0) = "" := by
      apply cl_inj
      rw [cl_join]
      show jl [] = cl ""
      unfold cl
      rw [sp_e]
      rfl
    rw [e]
    exact parse_empty
  · have hn : (t.words.take j)[j]? = none := by rw [List.getElem?_eq_none_iff, List.length_take]; omega
    refine parse_wrong h ?_ (fun w hw => hg w (List.mem_of_mem_take hw)) (by rw [List.length_take]; omega) hj (Agr.self _) (fun _ => first_none hn) (fun _ => name_none hn)
    intro e
    have : (t.words.take j).length = 0 := by rw [e]; rfl
    rw [List.length_take] at this
    omega
/-! ### good words -/
theorem name_gw {s : Str} (h : isName s = true) : gw s := by
  unfold isName at h
  unfold gw cl
  cases e : s.cps.toList with
  | nil => rw [e] at h; cases h
  | cons c r =>
    rw [e] at h
    simp only [Bool.and_eq_true, List.all_eq_true, decide_eq_true_eq] at h
    refine ⟨by simp, fun hm => ?_⟩
    have := h.2.2 32 hm
    exact absurd this (by decide +kernel)
theorem kind_gw {k : Str} (h : k ∈ kinds7) : gw k := by
  have : ∀ k ∈ kinds7, cl k ≠ [] ∧ 32 ∉ cl k := by decide +kernel
  exact this k h
theorem five_gw : ∀ k ∈ (["not", "and", "or", "with", "without"] : List Str), cl k ≠ [] ∧ 32 ∉ cl k := by decide +kernel
theorem T.gw : ∀ t : T, t.ok → ∀ w ∈ t.words, K90.gw w
  | .leaf k x y, h, w, hw => by
    simp only [T.words, List.mem_cons, List.not_mem_nil, or_false] at hw
    rcases hw with rfl | rfl | rfl
    · exact kind_gw h.1
    · exact name_gw h.2.1
    · exact name_gw h.2.2
  | .one hd c, h, w, hw => by
    rcases List.mem_append.mp (show w ∈ hd ++ c.words from hw) with hw | hw
    · rcases h.1 with rfl | ⟨wd, x, y, rfl, hwd, hx, hy⟩
      · rw [List.mem_singleton.mp hw]; exact five_gw _ (by simp)
      · simp only [List.mem_cons, List.not_mem_nil, or_false] at hw
        rcases hw with rfl | rfl | rfl
        · rcases hwd with rfl | rfl
          · exact five_gw _ (by simp)
          · exact five_gw _ (by simp)
        · exact name_gw hx
        · exact name_gw hy
    · exact T.gw c h.2 w hw
  | .two wd c d, h, w, hw => by
    rcases List.mem_cons.mp (show w ∈ wd :: (c.words ++ d.words) from hw) with rfl | hw
    · rcases h.1 with rfl | rfl
      · exact five_gw _ (by simp)
      · exact five_gw _ (by simp)
    · rcases List.mem_append.mp hw with hw | hw
      · exact T.gw c h.2.1 w hw
      · exact T.gw d h.2.2 w hw
def bads : List Str := ["Look", "xx", "kep", "wit", "looks", "0", ":", "Hang"]
def wrongs : List Str := ["Zz", "9a", "abcdefghi", "a_b", "aB", "a.", "0", "x9Y"]
theorem bads_ok : ∀ b ∈ bads, (cl b ≠ [] ∧ 32 ∉ cl b) ∧ isNamed b = false ∧ isHold b = false ∧ b.length ≤ 10 := by decide +kernel
theorem wrongs_ok : ∀ b ∈ wrongs, (cl b ≠ [] ∧ 32 ∉ cl b) ∧ isName b = false ∧ b.length ≤ 10 := by decide +kernel
theorem cl_nl : cl "\n" = [10] := by decide +kernel
theorem nl_gw {s z : Str} (h : gw s) (hz : 32 ∉ cl z) : gw (s ++ ("\n" ++ z)) := by
  unfold gw
  rw [cl_app, cl_app, cl_nl]
  refine ⟨by simp, ?_⟩
  simp only [List.mem_append, List.mem_singleton]
  rintro (h1 | h1 | h1)
  · exact h.2 h1
  · cases h1
  · exact hz h1
theorem nl_mem (s z : Str) : 10 ∈ cl (s ++ ("\n" ++ z)) := by
  rw [cl_app, cl_app, cl_nl]
  simp
theorem nl_name {s : Str} (h : 10 ∈ cl s) : isName s = false := by
  rw [← Bool.not_eq_true]
  intro h2
  unfold isName at h2
  unfold cl at h
  cases e : s.cps.toList with
  | nil => rw [e] at h2; cases h2
  | cons c r =>
    rw [e] at h2 h
    simp only [Bool.and_eq_true, List.all_eq_true, decide_eq_true_eq] at h2
    exact absurd (h2.2.2 10 h) (by decide +kernel)
theorem nl_named {s : Str} (h : 10 ∈ cl s) : isNamed s = false := by
  rw [← Bool.not_eq_true]
  intro h2
  unfold isNamed at h2
  have h2 := of_decide_eq_true h2
  have : ∀ k ∈ named, 10 ∉ cl k := by decide +kernel
  exact this s h2 h
theorem hold_mem {s : Str} : ∀ kv : List (Str × D), (kv.lookup s).isSome = true → s ∈ kv.map (·.1)
  | [], h => by cases h
  | (k, v) :: kv, h => by
    rw [List.lookup_cons] at h
    cases e : s == k with
    | true => rw [show s = k from eq_of_beq e]; simp
    | false => rw [e] at h; exact List.mem_cons_of_mem _ (hold_mem kv h)
theorem nl_hold {s : Str} (h : 10 ∈ cl s) : isHold s = false := by
  rw [← Bool.not_eq_true]
  intro h2
  have h3 := hold_mem kvHOLDING h2
  have : ∀ k ∈ kvHOLDING.map (·.1), 10 ∉ cl k := by
    have : ∀ k ∈ (["not", "and", "or", "with", "without"] : List Str), 10 ∉ cl k := by decide +kernel
    exact this
  exact this s h3 h
end K90
set_option Elab.async false
set_option linter.all false
set_option maxRecDepth 100000
set_option maxHeartbeats 2000000
namespace K90
open PySem PySem.Spec PyProof.Rows L2 Pu
/-! ### the places -/
theorem placesF_step {ws : List Str} {a : Nat} {k : Str} (f : Nat) (h : a < ws.length) (e : ws.getD a "" = k) : placesF (f + 1) ws a = (a : Int) :: placesF f ws (if k ∈ (["not", "and", "or"] : List Str) then a + 1 else a + 3) := by
  conv => lhs; unfold placesF
  rw [if_neg (by omega), e]
theorem place_tree : ∀ (t : T), t.ok → ∀ (ws : List Str) (a f : Nat), Agr ws a t.words → placesF (t.heads + f) ws a = t.places.map (fun p => ((a + p : Nat) : Int)) ++ placesF f ws (a + t.words.length)
  | .leaf k x y, h, ws, a, f, g => by
    have e0 : ws[a]? = some k := g 0 k rfl
    have hl := (List.getElem?_eq_some_iff.mp e0).1
    have hg : ws.getD a "" = k := by rw [List.getD_eq_getElem?_getD, e0]; rfl
    have hk : k ∉ (["not", "and", "or"] : List Str) := by
      have : ∀ k ∈ kinds7, k ∉ (["not", "and", "or"] : List Str) := by decide +kernel
      exact this k h.1
    show placesF (1 + f) ws a = _
    rw [Nat.add_comm 1 f]
    rw [placesF_step f hl hg, if_neg hk]
    rfl
  | .one hd c, h, ws, a, f, g => by
    have g1 : Agr ws a hd := Agr.left (vs := c.words) g
    have g2 : Agr ws (a + hd.length) c.words := Agr.right (us := hd) g
    show placesF (c.heads + 1 + f) ws a = _
    rw [show c.heads + 1 + f = (c.heads + f) + 1 by omega]
    have hstep : ∃ h0, ws[a]? = some h0 ∧ (if h0 ∈ (["not", "and", "or"] : List Str) then a + 1 else a + 3) = a + hd.length := by
      rcases h.1 with rfl | ⟨w, x, y, rfl, hw, _, _⟩
      · exact ⟨_, g1 0 _ rfl, by simp⟩
      · refine ⟨w, g1 0 w rfl, ?_⟩
        have hk : w ∉ (["not", "and", "or"] : List Str) := by
          rcases hw with rfl | rfl
          · decide +kernel
          · decide +kernel
        rw [if_neg hk]
        rfl
    obtain ⟨h0, e0, e1⟩ := hstep
    have hl := (List.getElem?_eq_some_iff.mp e0).1
    have hg : ws.getD a "" = h0 := by rw [List.getD_eq_getElem?_getD, e0]; rfl
    rw [placesF_step _ hl hg, e1, place_tree c h.2 ws _ f g2]
    have e3 : a + hd.length + c.words.length = a + (T.one hd c).words.length := by simp [T.words]; omega
    rw [e3]
    simp only [T.places, List.map_cons, List.map_map, List.cons_append, Nat.add_zero]
    congr 2
    exact List.map_congr_left fun p _ => by show ((a + hd.length + p : Nat) : Int) = ((a + (p + hd.length) : Nat) : Int); congr 1; omega
  | .two wd c d, h, ws, a, f, g => by
    have g0 : Agr ws a ([wd] ++ (c.words ++ d.words)) := g
    have g1 : Agr ws a [wd] := g0.left
    have g2 : Agr ws (a + 1) c.words := (g0.right).left
    have g3 : Agr ws (a + 1 + c.words.length) d.words := (g0.right).right
    have e0 : ws[a]? = some wd := g1 0 wd rfl
    have hl := (List.getElem?_eq_some_iff.mp e0).1
    have hg : ws.getD a "" = wd := by rw [List.getD_eq_getElem?_getD, e0]; rfl
    have hk : wd ∈ (["not", "and", "or"] : List Str) := by
      rcases h.1 with rfl | rfl <;> simp
    show placesF (c.heads + d.heads + 1 + f) ws a = _
    rw [show c.heads + d.heads + 1 + f = (c.heads + (d.heads + f)) + 1 by omega]
    rw [placesF_step _ hl hg, if_pos hk, place_tree c h.2.1 ws _ _ g2, place_tree d h.2.2 ws _ f g3]
    have e3 : a + 1 + c.words.length + d.words.length = a + (T.two wd c d).words.length := by simp [T.words]; omega
    rw [e3]
    simp only [T.places, List.map_cons, List.map_append, List.map_map, List.cons_append, Nat.add_zero, List.append_assoc]
    congr 2
    · exact List.map_congr_left fun p _ => by show ((a + 1 + p : Nat) : Int) = ((a + (p + 1) : Nat) : Int); congr 1; omega
    · congr 1
      exact List.map_congr_left fun p _ => by show ((a + 1 + c.words.length + p : Nat) : Int) = ((a + (p + (1 + c.words.length)) : Nat) : Int); congr 1; omega
theorem places_eq {t : T} (h : t.ok) (hl : t.words.length ≤ 60) : placesF 100 t.words 0 = t.places.map (fun p => ((p : Nat) : Int)) := by
  have hh := t.heads_le h
  rw [show (100 : Nat) = t.heads + (100 - t.heads) by omega, place_tree t h t.words 0 _ (Agr.self _), Nat.zero_add]
  have e : ∀ f, placesF f t.words t.words.length = [] := fun f => by
    cases f with
    | zero => rfl
    | succ f => unfold placesF; rw [if_pos (Nat.le_refl _)]
  rw [e, List.append_nil]
  exact List.map_congr_left fun p _ => by rw [Nat.zero_add]
/-! ### newlines -/
theorem nl_end {t : T} (h : t.ok) (hl : t.words.length ≤ 60) : parse (Txt.join " " t.words ++ "\n") = .error t.words.length := by
  have hg := t.gw h
  have h3 := t.words_len h
  obtain ⟨us, b, e⟩ : ∃ us b, t.words = us ++ [b] := ⟨t.words.dropLast, t.words.getLast (by intro e; rw [e] at h3; simp at h3), (List.dropLast_concat_getLast _).symm⟩
  have hlen : t.words.length = us.length + 1 := by rw [e]; simp
  have hb : b ∈ t.words := by rw [e]; simp
  have en : b ++ "\n" = b ++ ("\n" ++ "") := by
    apply cl_inj
    have : cl "" = [] := by unfold cl; rw [sp_e]
    rw [cl_app, cl_app, cl_app, this, List.append_nil]
  have ep : put t.words us.length (b ++ "\n") = us ++ [b ++ "\n"] := by
    unfold put
    rw [e]
    simp
  have hz : 32 ∉ cl "" := by unfold cl; rw [sp_e]; simp
  have key := parse_spot (j := us.length) (b := b ++ "\n") h hg hl (by omega) (fun z => by have := t.places_lt h _ z; omega) (by rw [en]; exact nl_gw (hg b hb) hz) (nl_name (by rw [en]; exact nl_mem _ _))
  rw [ep] at key
  rw [hlen, ← key, e, join_end]
theorem nl_front {t : T} (h : t.ok) (hl : t.words.length ≤ 60) : parse (rep1 (Txt.join " " t.words) " " "\n") = .error 1 := by
  have hg := t.gw h
  have h3 := t.words_len h
  match e : t.words, h3 with
  | w0 :: w1 :: rest, _ =>
    rw [e] at hg hl
    have g0 := hg w0 List.mem_cons_self
    have g1 := hg w1 (by simp)
    rw [rep_nl "\n" g0]
    have hz := g1.2
    refine parse_wrong (t := t) h (by simp) ?_ (by simp at hl ⊢; omega) (j := 0) (by omega) (fun i u hu => by simp at hu) (fun _ => first_bad rfl (nl_named (nl_mem _ _)) (nl_hold (nl_mem _ _))) (fun z => absurd (by cases t <;> exact List.mem_cons_self) z)
    intro w hw
    rcases List.mem_cons.mp hw with rfl | hw
    · exact nl_gw g0 hz
    · exact hg w (by simp [hw])
theorem sp_front {t : T} (h : t.ok) : parse (rep1 (Txt.join " " t.words) " " "  ") = .error 0 := by
  have hg := t.gw h
  have h3 := t.words_len h
  match e : t.words, h3 with
  | w0 :: w1 :: rest, _ =>
    rw [e] at hg
    exact parse_rep2 (hg w0 List.mem_cons_self)
/-! ### nots ahead -/
def T.nots : Nat → T → T
  | 0, t => t
  | n + 1, t => .one ["not"] (T.nots n t)
theorem T.nots_words : ∀ (n : Nat) (t : T), (T.nots n t).words = List.replicate n ("not" : Str) ++ t.words
  | 0, t => rfl
  | n + 1, t => by
    show (["not"] : List Str) ++ (T.nots n t).words = _
    rw [T.nots_words n t, List.replicate_succ]; rfl
theorem T.nots_depth : ∀ (n : Nat) (t : T), (T.nots n t).depth = n + t.depth
  | 0, t => by simp [T.nots]
  | n + 1, t => by
    show (T.nots n t).depth + 1 = _
    rw [T.nots_depth n t]; omega
theorem T.nots_ok : ∀ (n : Nat) (t : T), t.ok → (T.nots n t).ok
  | 0, t, h => h
  | n + 1, t, h => ⟨.inl rfl, T.nots_ok n t h⟩
/-! ### lists in the place of tuples -/
theorem flats_strs : ∀ ws : List Str, flats (ws.map D.str) = ws
  | [] => rfl
  | w :: ws => by simp [flats, flat, flats_strs ws]
theorem T.flat_d : ∀ t : T, flat t.d = t.words
  | .leaf k x y => rfl
  | .one hd c => by
    show flats (hd.map D.str ++ [c.d]) = hd ++ c.words
    rw [flats_append, flats_strs]
    simp [flats, T.flat_d c]
  | .two w c d => by
    show flats [.str w, c.d, d.d] = w :: (c.words ++ d.words)
    simp [flats, flat, T.flat_d c, T.flat_d d]
mutual
theorem flat_listed : ∀ d : D, flat (listed d) = flat d
  | .tup xs => by simp only [listed, flat]; exact flats_listeds xs
  | .str _ => rfl
  | .lst _ => rfl
  | .non => rfl
  | .bl _ => rfl
  | .int _ => rfl
  | .frl _ => rfl
  | .obj _ _ => rfl
theorem flats_listeds : ∀ ds : List D, flats (listeds ds) = flats ds
  | [] => rfl
  | d :: ds => by simp only [listeds, flats]; rw [flat_listed d, flats_listeds ds]
end
mutual
theorem dsize_listed : ∀ d : D, dsize (listed d) = dsize d
  | .tup xs => by simp only [listed, dsize]; rw [dsizes_listeds xs]
  | .str _ => rfl
  | .lst _ => rfl
  | .non => rfl
  | .bl _ => rfl
  | .int _ => rfl
  | .frl _ => rfl
  | .obj _ _ => rfl
theorem dsizes_listeds : ∀ ds : List D, dsizes (listeds ds) = dsizes ds
  | [] => rfl
  | d :: ds => by simp only [listeds, dsizes]; rw [dsize_listed d, dsizes_listeds ds]
end
mutual
theorem wordy_listed : ∀ d : D, wordy (listed d) = wordy d
  | .tup xs => by simp only [listed, wordy]; exact wordys_listeds xs
  | .str _ => rfl
  | .lst _ => rfl
  | .non => rfl
  | .bl _ => rfl
  | .int _ => rfl
  | .frl _ => rfl
  | .obj _ _ => rfl
theorem wordys_listeds : ∀ ds : List D, wordys (listeds ds) = wordys ds
  | [] => rfl
  | d :: ds => by simp only [listeds, wordys]; rw [wordy_listed d, wordys_listeds ds]
end
mutual
theorem pt_wordy : ∀ d : D, pt d = true → wordy d = true
  | .str _, _ => rfl
  | .tup xs, h => by simp only [wordy]; exact pts_wordys xs (by simpa [pt] using h)
  | .lst _, h => by simp [pt] at h
  | .non, h => by simp [pt] at h
  | .bl _, h => by simp [pt] at h
  | .int _, h => by simp [pt] at h
  | .frl _, h => by simp [pt] at h
  | .obj _ _, h => by simp [pt] at h
theorem pts_wordys : ∀ ds : List D, pts ds = true → wordys ds = true
  | [], _ => rfl
  | d :: ds, h => by
    simp only [pts, Bool.and_eq_true] at h
    simp only [wordys, pt_wordy d h.1, pts_wordys ds h.2, Bool.and_self]
end
theorem ddepths_append : ∀ xs ys : List D, ddepths (xs ++ ys) = max (ddepths xs) (ddepths ys)
  | [], _ => by simp [ddepths]
  | x :: xs, ys => by simp [ddepths, ddepths_append xs ys, Nat.max_assoc]
theorem ddepths_strs : ∀ ws : List Str, ddepths (ws.map D.str) = 0
  | [] => rfl
  | w :: ws => by simp [ddepths, ddepth, ddepths_strs ws]
theorem T.ddepth_d : ∀ t : T, ddepth t.d = t.depth
  | .leaf k x y => by simp [T.d, ddepth, ddepths, T.depth]
  | .one hd c => by
    show ddepths (hd.map D.str ++ [c.d]) + 1 = c.depth + 1
    rw [ddepths_append, ddepths_strs]
    simp [ddepths, T.ddepth_d c]
  | .two w c d => by
    show ddepths [.str w, c.d, d.d] + 1 = max c.depth d.depth + 1
    simp [ddepths, ddepth, T.ddepth_d c, T.ddepth_d d]
theorem T.d_tup : ∀ t : T, ∃ xs, t.d = .tup xs
  | .leaf _ _ _ => ⟨_, rfl⟩
  | .one _ _ => ⟨_, rfl⟩
  | .two _ _ _ => ⟨_, rfl⟩
end K90
set_option Elab.async false
set_option linter.all false
set_option maxRecDepth 100000
set_option maxHeartbeats 1000000
namespace K90
open PySem PySem.Spec PyProof.Rows L2 Pu
def wL0 : RS := (wSet 1 (rFn φ_law_digits (rCons (rFn φ_law_cell (rCons (rVar 0) (rCons (rC (.int 0)) rNil))) (rCons (rLst (rCons (rC (.int 24)) (rCons (rC (.int 13)) (rCons (rC (.int 8)) (rCons (rC (.int 97)) (rCons (rC (.int 89)) (rCons (rC (.int 60)) (rCons (rC (.int 12)) (rCons (rC (.int 13)) (rCons (rC (.int 3)) rNil)))))))))) rNil))))
def wL1 : RS := (wSet 2 (rFn φ_law_digits (rCons (rFn φ_law_cell (rCons (rVar 0) (rCons (rC (.int 1)) rNil))) (rCons (r2 fAdd (rLst (rCons (rC (.int 7)) (rCons (rC (.int 12)) (rCons (rC (.int 12)) rNil)))) (r2 fMulA (rLst (rCons (rC (.int 42)) (rCons (rC (.int 42)) (rCons (rC (.int 12)) (rCons (rC (.int 12)) rNil))))) (rC (.int 12)))) rNil))))
def wL2 : RS := (wSet 3 (rFn φ_law_digits (rCons (rFn φ_law_cell (rCons (rVar 0) (rCons (rC (.int 2)) rNil))) (rCons (r2 fAdd (rLst (rCons (rC (.int 7)) (rCons (rC (.int 12)) (rCons (rC (.int 12)) rNil)))) (r2 fMulA (rLst (rCons (rC (.int 42)) (rCons (rC (.int 42)) (rCons (rC (.int 12)) (rCons (rC (.int 12)) rNil))))) (rC (.int 12)))) rNil))))
def wL3 : RS := (wSet 4 (r2 fAdd (rFn φ_law_names (rCons (rIxO 1 (rC (.int 0))) (rCons (rC (.int 8)) rNil))) (rLst (rCons (rC (.str "not")) (rCons (rC (.str "hang")) (rCons (rC (.str "abcdefgh")) (rCons (rC (.str "with")) rNil)))))))
def wL4 : RS := (wFrz 4 (wSet 5 (rFn φ_law_two (rCons (rFn φ_law_claim (rCons (rVar 2) (rCons (rVar 4) (rCons (rIxO 1 (rC (.int 1))) (rCons (rC (.int 60)) (rCons (rC (.int 12)) rNil)))))) (rCons (rVar 3) (rCons (rVar 4) (rCons (rIxO 1 (rC (.int 7))) (rCons (r2 fIx (rLst (rCons (rC (.str "and")) (rCons (rC (.str "or")) (rCons (rC (.str "not")) rNil)))) (rIxO 1 (rC (.int 8)))) rNil))))))))
variable {P : PEnds} {x : PX} {B : Addr} {ns : List Int} {s0 s1 s2 s3 s4 s5 s6 s7 s8 s9 s10 s11 s12 s13 s14 s15 s16 s17 s18 s19 s20 : Option S}
structure Row9 (row : List Int) (g0 g1 g2 g3 g4 g5 g6 g7 g8 : Int) : Prop where
  e : row = [g0, g1, g2, g3, g4, g5, g6, g7, g8]
  b0 : 0 ≤ g0 ∧ g0 < 24
  b1 : 0 ≤ g1 ∧ g1 < 13
  b2 : 0 ≤ g2 ∧ g2 < 8
  b3 : 0 ≤ g3 ∧ g3 < 97
  b4 : 0 ≤ g4 ∧ g4 < 89
  b5 : 0 ≤ g5 ∧ g5 < 60
  b6 : 0 ≤ g6 ∧ g6 < 12
  b7 : 0 ≤ g7 ∧ g7 < 13
  b8 : 0 ≤ g8 ∧ g8 < 3
theorem row9_of {row : List Int} (h : row.length = 9) (g : ∀ (i : Nat) (z : Int), ([24, 13, 8, 97, 89, 60, 12, 13, 3] : List Int)[i]? = some z → ∃ r : Int, row[i]? = some r ∧ 0 ≤ r ∧ r < z) : ∃ g0 g1 g2 g3 g4 g5 g6 g7 g8, Row9 row g0 g1 g2 g3 g4 g5 g6 g7 g8 := by
  match row, h with
  | [g0, g1, g2, g3, g4, g5, g6, g7, g8], _ =>
    refine ⟨g0, g1, g2, g3, g4, g5, g6, g7, g8, rfl, ?_, ?_, ?_, ?_, ?_, ?_, ?_, ?_, ?_⟩
    · obtain ⟨r, e, h⟩ := g 0 24 rfl; cases e; exact h
    · obtain ⟨r, e, h⟩ := g 1 13 rfl; cases e; exact h
    · obtain ⟨r, e, h⟩ := g 2 8 rfl; cases e; exact h
    · obtain ⟨r, e, h⟩ := g 3 97 rfl; cases e; exact h
    · obtain ⟨r, e, h⟩ := g 4 89 rfl; cases e; exact h
    · obtain ⟨r, e, h⟩ := g 5 60 rfl; cases e; exact h
    · obtain ⟨r, e, h⟩ := g 6 12 rfl; cases e; exact h
    · obtain ⟨r, e, h⟩ := g 7 13 rfl; cases e; exact h
    · obtain ⟨r, e, h⟩ := g 8 3 rfl; cases e; exact h
theorem law_0 (hn : ns.length ≤ 63) (hP : ∀ row g0 g1 g2 g3 g4 g5 g6 g7 g8, Row9 row g0 g1 g2 g3 g4 g5 g6 g7 g8 → P.nx [some (.fz (.frl (ns.map D.int))), some (.fz (.lst (row.map D.int))), s2, s3, s4, s5, s6, s7, s8, s9, s10, s11, s12, s13, s14, s15, s16, s17, s18, s19, s20]) :
    wL0 P (fun c fs _ => x c fs) [some (.fz (.frl (ns.map D.int))), s1, s2, s3, s4, s5, s6, s7, s8, s9, s10, s11, s12, s13, s14, s15, s16, s17, s18, s19, s20] := by
  refine ⟨ns, 0, rfl, by omega, hn, fun n h0 => ?_⟩
  refine ⟨by simp, n, [24, 13, 8, 97, 89, 60, 12, 13, 3], rfl, h0, by decide, by decide, fun row hl hr => ?_⟩
  obtain ⟨g0, g1, g2, g3, g4, g5, g6, g7, g8, h⟩ := row9_of (by simpa using hl) hr
  exact hP row _ _ _ _ _ _ _ _ _ h
def szs51 : List Int := [7, 12, 12] ++ (List.replicate 12 ([42, 42, 12, 12] : List Int)).flatten
theorem szs51_ok : (∀ z ∈ szs51, 0 < z ∧ z < 1000) ∧ szs51.length = 51 := by decide +kernel
theorem szs51_d : szs51.map D.int = [D.int 7, D.int 12, D.int 12] ++ (List.replicate 12 [D.int 42, D.int 42, D.int 12, D.int 12]).flatten := by
  unfold szs51
  rw [List.map_append, List.map_flatten, List.map_replicate]
  rfl
theorem law_1 (hn : ns.length ≤ 63) (hP : ∀ draw : List Int, draw.length = 51 → P.nx [some (.fz (.frl (ns.map D.int))), s1, some (.fz (.lst (draw.map D.int))), s3, s4, s5, s6, s7, s8, s9, s10, s11, s12, s13, s14, s15, s16, s17, s18, s19, s20]) :
    wL1 P (fun c fs _ => x c fs) [some (.fz (.frl (ns.map D.int))), s1, s2, s3, s4, s5, s6, s7, s8, s9, s10, s11, s12, s13, s14, s15, s16, s17, s18, s19, s20] := by
  refine ⟨ns, 1, rfl, by omega, hn, fun n h0 => ?_⟩
  refine ⟨by simp, by simp, ⟨by omega, by omega, by decide⟩, small_size (by simp), n, szs51, ?_, h0, szs51_ok.1, by rw [szs51_ok.2]; omega, fun row hl hr => ?_⟩
  · rw [szs51_d]; rfl
  · exact hP row (by rw [hl, szs51_ok.2])
theorem law_2 (hn : ns.length ≤ 63) (hP : ∀ draw : List Int, draw.length = 51 → P.nx [some (.fz (.frl (ns.map D.int))), s1, s2, some (.fz (.lst (draw.map D.int))), s4, s5, s6, s7, s8, s9, s10, s11, s12, s13, s14, s15, s16, s17, s18, s19, s20]) :
    wL2 P (fun c fs _ => x c fs) [some (.fz (.frl (ns.map D.int))), s1, s2, s3, s4, s5, s6, s7, s8, s9, s10, s11, s12, s13, s14, s15, s16, s17, s18, s19, s20] := by
  refine ⟨ns, 2, rfl, by omega, hn, fun n h0 => ?_⟩
  refine ⟨by simp, by simp, ⟨by omega, by omega, by decide⟩, small_size (by simp), n, szs51, ?_, h0, szs51_ok.1, by rw [szs51_ok.2]; omega, fun row hl hr => ?_⟩
  · rw [szs51_d]; rfl
  · exact hP row (by rw [hl, szs51_ok.2])
theorem four_ok : ∀ n ∈ (["not", "hang", "abcdefgh", "with"] : List Str), isName n = true := by decide +kernel
theorem law_3 {row : List Int} {g0 g1 g2 g3 g4 g5 g6 g7 g8 : Int} (h : Row9 row g0 g1 g2 g3 g4 g5 g6 g7 g8) (hP : ∀ nms : List Str, nms.length = 12 → (∀ n ∈ nms, isName n = true) → P.nx [s0, some (.fz (.lst (row.map D.int))), s2, s3, some (.ls true (nms.map D.str)), s5, s6, s7, s8, s9, s10, s11, s12, s13, s14, s15, s16, s17, s18, s19, s20]) :
    wL3 P (fun c fs _ => x c fs) [s0, some (.fz (.lst (row.map D.int))), s2, s3, s4, s5, s6, s7, s8, s9, s10, s11, s12, s13, s14, s15, s16, s17, s18, s19, s20] := by
  obtain rfl := h.e
  refine ⟨.int g0, rfl, g0, rfl, h.b0.1, h.b0.2, fun ns hl hn => ?_⟩
  refine ⟨by simp, small_size (by simp [hl]), ?_⟩
  have := hP (ns ++ (["not", "hang", "abcdefgh", "with"] : List Str)) (by simp [hl]) (fun n hm => by
    rcases List.mem_append.mp hm with hm | hm
    · exact hn n hm
    · exact four_ok n hm)
  rw [List.map_append] at this
  exact this
theorem law_4 {row draw more : List Int} {nms : List Str} {g0 g1 g2 g3 g4 g5 g6 g7 g8 : Int} (h : Row9 row g0 g1 g2 g3 g4 g5 g6 g7 g8) (hd : draw.length = 51) (hm : more.length = 51) (hl : nms.length = 12) (hn : ∀ n ∈ nms, isName n = true)
    (hP : ∀ t : T, t.ok → t.words.length ≤ 60 → t.depth ≤ 12 → P.nx [s0, some (.fz (.lst (row.map D.int))), some (.fz (.lst (draw.map D.int))), some (.fz (.lst (more.map D.int))), some (.fz (.lst (nms.map D.str))), some (.fz t.row), s6, s7, s8, s9, s10, s11, s12, s13, s14, s15, s16, s17, s18, s19, s20]) :
    wL4 P (fun c fs _ => x c fs) [s0, some (.fz (.lst (row.map D.int))), some (.fz (.lst (draw.map D.int))), some (.fz (.lst (more.map D.int))), some (.ls true (nms.map D.str)), s5, s6, s7, s8, s9, s10, s11, s12, s13, s14, s15, s16, s17, s18, s19, s20] := by
  obtain rfl := h.e
  refine ⟨.int g1, rfl, draw, nms, g1, 60, 12, rfl, hd, hl, hn, h.b1.1, by have := h.b1.2; omega, by omega, by omega, by omega, fun t ht h1 h2 => ?_⟩
  have h8 : ∃ w : Str, L2.atI [D.str "and", D.str "or", D.str "not"] g8 = some (.str w) ∧ (w = "and" ∨ w = "or" ∨ w = "not") := by
    have b := h.b8
    rcases (show g8 = 0 ∨ g8 = 1 ∨ g8 = 2 by omega) with e | e | e
    · rw [e]; exact ⟨_, rfl, .inl rfl⟩
    · rw [e]; exact ⟨_, rfl, .inr (.inl rfl)⟩
    · rw [e]; exact ⟨_, rfl, .inr (.inr rfl)⟩
  obtain ⟨w, w1, w2⟩ := h8
  refine ⟨.int g7, rfl, by simp, .int g8, rfl, .str w, w1, t, more, nms, g7, w, rfl, hm, hl, hn, h.b7.1, by have := h.b7.2; omega, w2, ht, by omega, by omega, fun t2 ht2 i1 i2 => ?_⟩
  exact hP t2 ht2 i1 i2
end K90
set_option Elab.async false
set_option linter.all false
set_option maxRecDepth 100000
set_option maxHeartbeats 1000000
namespace K90
open PySem PySem.Spec PyProof.Rows L2 Pu
def wL5 : RS := (wSet 6 (rIxO 5 (rC (.int 1))))
def wL6 : RS := (wSet 7 (rM1 fJoin (rC (.str " ")) (rVar 6)))
def wL7 (ABadClaim : Addr) : RS := (wSet 8 (rFn (φ_parse_claim ABadClaim) (rCons (rVar 7) rNil)))
def wL8 : RS := (wIf (rOr (rT (r2 fNe (rVar 8) (rIxO 5 (rC (.int 0))))) (rOr (rNot (rT (rFn φ_law_is_tuples (rCons (rVar 8) rNil)))) (rT (r2 fNe (rFn φ_format_claim (rCons (rIxO 5 (rC (.int 0))) rNil)) (rVar 7)))))
  (wRetF (rC (.bl false)))
  wNext)
def wL9 : RS := (wIf (rOr (rT (r2 fNe (rFn φ_format_claim (rCons (rVar 8) rNil)) (rVar 7))) (rT (r2 fNe (rFn φ_format_claim (rCons (rFn (φ_law_listed 12) (rCons (rIxO 5 (rC (.int 0))) rNil)) rNil)) (rVar 7))))
  (wRetF (rC (.bl false)))
  wNext)
variable {P : PEnds} {x : PX} {B : Addr} {s0 s1 s2 s3 s4 s5 s6 s7 s8 s9 s10 s11 s12 s13 s14 s15 s16 s17 s18 s19 s20 : Option S}
/-! ### words that the model writes -/
theorem name_cps {s : Str} (h : isName s = true) : (∀ c ∈ s.cps.toList, c ∈ signS) ∧ s.length ≤ 8 := by
  unfold isName at h
  rw [len_list]
  cases e : s.cps.toList with
  | nil => rw [e] at h; cases h
  | cons c r =>
    rw [e] at h
    simp only [Bool.and_eq_true, List.all_eq_true, decide_eq_true_eq] at h
    exact ⟨h.2.2, by simp only [List.length_cons]; omega⟩
/-- a mild word -/
def mw (w : Str) : Prop := (∀ c ∈ w.cps.toList, c < 128) ∧ w.length ≤ 20
theorem name_mw {s : Str} (h : isName s = true) : mw s := by
  have := name_cps h
  refine ⟨fun c hc => ?_, by omega⟩
  have h2 : ∀ c ∈ signS, c < 128 := by decide +kernel
  exact h2 c (this.1 c hc)
theorem kind_mw {k : Str} (h : k ∈ kinds7) : mw k := by
  have : ∀ k ∈ kinds7, (∀ c ∈ k.cps.toList, c < 128) ∧ k.length ≤ 20 := by decide +kernel
  exact this k h
theorem five_mw : ∀ k ∈ (["not", "and", "or", "with", "without"] : List Str), (∀ c ∈ k.cps.toList, c < 128) ∧ k.length ≤ 20 := by decide +kernel
theorem T.mw : ∀ t : T, t.ok → ∀ w ∈ t.words, K90.mw w
  | .leaf k x y, h, w, hw => by
    simp only [T.words, List.mem_cons, List.not_mem_nil, or_false] at hw
    rcases hw with rfl | rfl | rfl
    · exact kind_mw h.1
    · exact name_mw h.2.1
    · exact name_mw h.2.2
  | .one hd c, h, w, hw => by
    rcases List.mem_append.mp (show w ∈ hd ++ c.words from hw) with hw | hw
    · rcases h.1 with rfl | ⟨wd, x, y, rfl, hwd, hx, hy⟩
      · rw [List.mem_singleton.mp hw]; exact five_mw _ (by simp)
      · simp only [List.mem_cons, List.not_mem_nil, or_false] at hw
        rcases hw with rfl | rfl | rfl
        · rcases hwd with rfl | rfl
          · exact five_mw _ (by simp)
          · exact five_mw _ (by simp)
        · exact name_mw hx
        · exact name_mw hy
    · exact T.mw c h.2 w hw
  | .two wd c d, h, w, hw => by
    rcases List.mem_cons.mp (show w ∈ wd :: (c.words ++ d.words) from hw) with rfl | hw
    · rcases h.1 with rfl | rfl
      · exact five_mw _ (by simp)
      · exact five_mw _ (by simp)
    · rcases List.mem_append.mp hw with hw | hw
      · exact T.mw c h.2.1 w hw
      · exact T.mw d h.2.2 w hw
theorem sum_le {ws : List Str} (h : ∀ w ∈ ws, w.length ≤ 20) : (ws.map (·.length)).sum ≤ 20 * ws.length := by
  induction ws with
  | nil => simp
  | cons w ws ih =>
    have := h w List.mem_cons_self
    have := ih (fun v hv => h v (List.mem_cons_of_mem _ hv))
    simp only [List.map_cons, List.sum_cons, List.length_cons]
    omega
theorem len_sp : (Str.ofString " ").length = 1 := by decide +kernel
theorem jb {ws : List Str} (h : ∀ w ∈ ws, w.length ≤ 20) (hl : ws.length ≤ 200) : (ws.map (·.length)).sum + ws.length * (Str.ofString " ").length ≤ 16777216 := by
  have := sum_le h
  rw [len_sp]
  omega
theorem jlen {ws : List Str} (h : ∀ w ∈ ws, w.length ≤ 20) (hl : ws.length ≤ 200) : (Txt.join " " ws).length ≤ 5000 := by
  have h1 := sum_le h
  have h2 := StrLaws.join_length_le (" " : Str) ws
  have h3 : Txt.join " " ws = Str.join " " ws := StrLaws.glued_eq_join _ _
  have e : (" " : Str).length = 1 := len_sp
  rw [e] at h2
  rw [h3]
  omega
/-! ### a claim's data -/
theorem pys_app : ∀ xs ys : List D, D.pys (xs ++ ys) = D.pys xs ++ D.pys ys
  | [], _ => rfl
  | x :: xs, ys => by simp [D.pys, pys_app xs ys]
mutual
theorem pt_pure : ∀ d : D, pt d = true → d.pure = true
  | .str _, _ => rfl
  | .tup xs, h => by simp only [D.pure]; exact pts_pures xs (by simpa [pt] using h)
  | .lst _, h => by simp [pt] at h
  | .non, h => by simp [pt] at h
  | .bl _, h => by simp [pt] at h
  | .int _, h => by simp [pt] at h
  | .frl _, h => by simp [pt] at h
  | .obj _ _, h => by simp [pt] at h
theorem pts_pures : ∀ ds : List D, pts ds = true → D.pures ds = true
  | [], _ => rfl
  | d :: ds, h => by
    simp only [pts, Bool.and_eq_true] at h
    simp only [D.pures, pt_pure d h.1, pts_pures ds h.2, Bool.and_self]
end
mutual
theorem pt_lay : ∀ d : D, pt d = true → (∀ w ∈ flat d, mw w) → d.py.canLay0 = true
  | .str s, _, h => by
    have := (h s (by simp [flat])).1
    simp only [D.py, PyData.canLay0, PyData.strOk]
    rw [← Array.all_toList, List.all_eq_true]
    intro c hc
    have := this c hc
    exact decide_eq_true (by omega)
  | .tup xs, h, g => by
    simp only [D.py, PyData.canLay0]
    exact pts_lay xs (by simpa [pt] using h) (by simpa [flat] using g)
  | .lst _, h, _ => by simp [pt] at h
  | .non, h, _ => by simp [pt] at h
  | .bl _, h, _ => by simp [pt] at h
  | .int _, h, _ => by simp [pt] at h
  | .frl _, h, _ => by simp [pt] at h
  | .obj _ _, h, _ => by simp [pt] at h
theorem pts_lay : ∀ ds : List D, pts ds = true → (∀ w ∈ flats ds, mw w) → PyData.canLayAll0 (D.pys ds) = true
  | [], _, _ => rfl
  | d :: ds, h, g => by
    simp only [pts, Bool.and_eq_true] at h
    simp only [D.pys, PyData.canLayAll0, pt_lay d h.1 (fun w hw => g w (by simp [flats, hw])), pts_lay ds h.2 (fun w hw => g w (by simp [flats, hw])), Bool.and_self]
end
mutual
theorem pt_depth : ∀ d : D, pt d = true → d.py.depth = ddepth d
  | .str s, _ => rfl
  | .tup xs, h => by
    simp only [D.py, PyData.depth, ddepth]
    rw [pts_depth xs (by simpa [pt] using h)]
  | .lst _, h => by simp [pt] at h
  | .non, h => by simp [pt] at h
  | .bl _, h => by simp [pt] at h
  | .int _, h => by simp [pt] at h
  | .frl _, h => by simp [pt] at h
  | .obj _ _, h => by simp [pt] at h
theorem pts_depth : ∀ ds : List D, pts ds = true → PyData.depthAll (D.pys ds) = ddepths ds
  | [], _ => rfl
  | d :: ds, h => by
    simp only [pts, Bool.and_eq_true] at h
    simp only [D.pys, PyData.depthAll, ddepths, pt_depth d h.1, pts_depth ds h.2]
end
theorem T.shaped {t : T} (h : t.ok) (hd : t.depth ≤ 12) : SeqAt.shaped t.d.py = true ∧ PyData.eqv t.d.py t.d.py = true := by
  have h1 := pt_lay t.d t.pt (by rw [T.flat_d]; exact t.mw h)
  have h2 := pt_depth t.d t.pt
  rw [T.ddepth_d] at h2
  refine ⟨?_, SeqAt.eqv_refl _ h1⟩
  unfold SeqAt.shaped
  rw [h1, h2]
  simp only [Bool.true_and]
  exact decide_eq_true (by omega)
theorem ne_self {t : T} (h : t.ok) (hd : t.depth ≤ 12) {q : S → Prop} (hq : q (.fz (.bl false))) : fNe t.d t.d q := by
  have hs := t.shaped h hd
  have hp := pt_pure t.d t.pt
  obtain ⟨xs, e⟩ := t.d_tup
  rw [e] at hs hp ⊢
  refine ⟨⟨hp, hp, hs.1, hs.1⟩, ?_⟩
  rw [hs.2]
  exact hq
theorem ne_str {a b : Str} (e : a = b) {q : S → Prop} (hq : q (.fz (.bl false))) : fNe (.str a) (.str b) q := by
  show q (.fz (.bl (!decide (a = b))))
  rw [decide_eq_true e]
  exact hq
theorem ne_int {a b : Int} (e : a = b) {q : S → Prop} (hq : q (.fz (.bl false))) : fNe (.int a) (.int b) q := by
  show q (.fz (.bl (!decide (a = b))))
  rw [decide_eq_true e]
  exact hq
/-! ### the steps -/
theorem law_5 {t : T} (hP : P.nx [s0, s1, s2, s3, s4, some (.fz t.row), some (.fz (W t.words)), s7, s8, s9, s10, s11, s12, s13, s14, s15, s16, s17, s18, s19, s20]) :
    wL5 P (fun c fs _ => x c fs) [s0, s1, s2, s3, s4, some (.fz t.row), s6, s7, s8, s9, s10, s11, s12, s13, s14, s15, s16, s17, s18, s19, s20] := ⟨_, rfl, hP⟩
theorem len_of {t : T} (h : t.ok) : ∀ w ∈ t.words, w.length ≤ 20 := fun w hw => (t.mw h w hw).2
theorem law_6 {t : T} (h : t.ok) (hl : t.words.length ≤ 60) (hP : P.nx [s0, s1, s2, s3, s4, s5, some (.fz (W t.words)), some (.fz (.str (Txt.join " " t.words))), s8, s9, s10, s11, s12, s13, s14, s15, s16, s17, s18, s19, s20]) :
    wL6 P (fun c fs _ => x c fs) [s0, s1, s2, s3, s4, s5, some (.fz (W t.words)), s7, s8, s9, s10, s11, s12, s13, s14, s15, s16, s17, s18, s19, s20] :=
  ⟨t.words, rfl, jb (len_of h) (by omega), hP⟩
theorem law_7 {t : T} (h : t.ok) (hl : t.words.length ≤ 60) (hd : t.depth ≤ 12) (hP : P.nx [s0, s1, s2, s3, s4, s5, s6, some (.fz (.str (Txt.join " " t.words))), some (.fz t.d), s9, s10, s11, s12, s13, s14, s15, s16, s17, s18, s19, s20]) :
    wL7 B P (fun c fs _ => x c fs) [s0, s1, s2, s3, s4, s5, s6, some (.fz (.str (Txt.join " " t.words))), s8, s9, s10, s11, s12, s13, s14, s15, s16, s17, s18, s19, s20] := by
  refine ⟨Txt.join " " t.words, rfl, by have := jlen (len_of h) (by omega : t.words.length ≤ 200); omega, ?_⟩
  rw [parse_whole h (t.gw h) hl hd]
  exact hP
theorem fsum {ws : List Str} (h : ∀ w ∈ ws, w.length ≤ 20) (hl : ws.length ≤ 200) : (ws.map (·.length)).sum ≤ 10000 := by
  have := sum_le h
  omega
theorem law_8 {t : T} (h : t.ok) (hl : t.words.length ≤ 60) (hd : t.depth ≤ 12) (hP : P.nx [s0, s1, s2, s3, s4, some (.fz t.row), s6, some (.fz (.str (Txt.join " " t.words))), some (.fz t.d), s9, s10, s11, s12, s13, s14, s15, s16, s17, s18, s19, s20]) :
    wL8 P (fun c fs _ => x c fs) [s0, s1, s2, s3, s4, some (.fz t.row), s6, some (.fz (.str (Txt.join " " t.words))), some (.fz t.d), s9, s10, s11, s12, s13, s14, s15, s16, s17, s18, s19, s20] := by
  have hz := t.dsize_le h
  refine ⟨_, rfl, ne_self h hd ?_⟩
  refine ⟨t, rfl, h, hl, ?_⟩
  refine ⟨_, rfl, t.d, rfl, pt_wordy _ t.pt, by omega, by rw [T.flat_d]; exact fsum (len_of h) (by omega), ?_⟩
  rw [T.flat_d]
  simp only [rVar, List.getElem?_cons_succ, List.getElem?_cons_zero, S.d]
  refine ne_str rfl ?_
  exact hP
theorem law_9 {t : T} (h : t.ok) (hl : t.words.length ≤ 60) (hd : t.depth ≤ 12) (hP : P.nx [s0, s1, s2, s3, s4, some (.fz t.row), s6, some (.fz (.str (Txt.join " " t.words))), some (.fz t.d), s9, s10, s11, s12, s13, s14, s15, s16, s17, s18, s19, s20]) :
    wL9 P (fun c fs _ => x c fs) [s0, s1, s2, s3, s4, some (.fz t.row), s6, some (.fz (.str (Txt.join " " t.words))), some (.fz t.d), s9, s10, s11, s12, s13, s14, s15, s16, s17, s18, s19, s20] := by
  have hz := t.dsize_le h
  obtain ⟨xs, e⟩ := t.d_tup
  have hw : wordy t.d = true := pt_wordy _ t.pt
  have hp : ddepth t.d = t.depth := t.ddepth_d
  refine ⟨t.d, rfl, hw, by omega, by rw [T.flat_d]; exact fsum (len_of h) (by omega), ?_⟩
  rw [T.flat_d]
  simp only [rVar, List.getElem?_cons_succ, List.getElem?_cons_zero, S.d]
  refine ne_str rfl ?_
  refine ⟨_, rfl, xs, by rw [← e]; rfl, ?_, ?_, ?_, ?_⟩
  · rw [e] at hw; simpa [wordy] using hw
  · rw [e] at hp; simp only [ddepth] at hp; omega
  · rw [e] at hz; simp only [dsize] at hz; omega
  · have g1 := wordy_listed t.d
    have g2 := dsize_listed t.d
    have g3 := flat_listed t.d
    rw [T.flat_d] at g3
    rw [hw] at g1
    rw [e] at g1 g2 g3 hz
    have g3' : flat (.lst (listeds xs)) = t.words := g3
    refine ⟨.lst (listeds xs), rfl, g1, (by have : dsize (.lst (listeds xs)) = dsize (.tup xs) := g2; omega), by rw [g3']; exact fsum (len_of h) (by omega), ?_⟩
    rw [g3']
    simp only [rVar, List.getElem?_cons_succ, List.getElem?_cons_zero, S.d]
    refine ne_str rfl ?_
    exact hP
end K90
set_option Elab.async false
set_option linter.all false
set_option maxRecDepth 100000
set_option maxHeartbeats 1000000
namespace K90
open PySem PySem.Spec PyProof.Rows L2 Pu
def wL10 : RS := (wSet 9 (rFn φ_law_places (rCons (rVar 6) rNil)))
def wL11 : RS := (wSet 10 (rIxO 9 (r2 fMod (rCall fInt (rCons (rIxO 1 (rC (.int 3))) rNil)) (rLenO 9))))
def wL12 : RS := (wSet 11 (r2 fIx (rLst (rCons (rC (.str "Look")) (rCons (rC (.str "xx")) (rCons (rC (.str "kep")) (rCons (rC (.str "wit")) (rCons (rC (.str "looks")) (rCons (rC (.str "0")) (rCons (rC (.str ":")) (rCons (rC (.str "Hang")) rNil))))))))) (rIxO 1 (rC (.int 2)))))
def wL13 (ABadClaim : Addr) : RS := (wIf (rT (r2 fNe (rFn (φ_law_fault ABadClaim) (rCons (rM1 fJoin (rC (.str " ")) (r2 fAdd (r2 fAdd (rSlice (rVar 6) roNo (roSo (rVar 10))) (rLst (rCons (rVar 11) rNil))) (rSlice (rVar 6) (roSo (r2 fAdd (rVar 10) (rC (.int 1)))) roNo))) rNil)) (r2 fAdd (rVar 10) (rC (.int 1)))))
  (wRetF (rC (.bl false)))
  wNext)
def wL14 : RS := (wSet 12 (rLc (riR1 (rLenO 6)) (rgName 20) (rT (rInO true (rVar 20) 9)) (rVar 20) [20]))
def wL15 : RS := (wSet 13 (rIxO 12 (r2 fMod (rCall fInt (rCons (rIxO 1 (rC (.int 4))) rNil)) (rLenO 12))))
def wL16 : RS := (wSet 14 (r2 fIx (rLst (rCons (rC (.str "Zz")) (rCons (rC (.str "9a")) (rCons (rC (.str "abcdefghi")) (rCons (rC (.str "a_b")) (rCons (rC (.str "aB")) (rCons (rC (.str "a.")) (rCons (rC (.str "0")) (rCons (rC (.str "x9Y")) rNil))))))))) (rIxO 1 (rC (.int 2)))))
def wL17 (ABadClaim : Addr) : RS := (wIf (rT (r2 fNe (rFn (φ_law_fault ABadClaim) (rCons (rM1 fJoin (rC (.str " ")) (r2 fAdd (r2 fAdd (rSlice (rVar 6) roNo (roSo (rVar 13))) (rLst (rCons (rVar 14) rNil))) (rSlice (rVar 6) (roSo (r2 fAdd (rVar 13) (rC (.int 1)))) roNo))) rNil)) (r2 fAdd (rVar 13) (rC (.int 1)))))
  (wRetF (rC (.bl false)))
  wNext)
def wL18 : RS := (wSet 15 (r2 fMod (rCall fInt (rCons (rIxO 1 (rC (.int 5))) rNil)) (rLenO 6)))
def wL19 : RS := (wSet 16 (rM1 fJoin (rC (.str " ")) (rSlice (rVar 6) roNo (roSo (rVar 15)))))
def wL20 (ABadClaim : Addr) : RS := (wIf (rT (r2 fNe (rFn (φ_law_fault ABadClaim) (rCons (rVar 16) rNil)) (r2 fAdd (rVar 15) (rC (.int 1)))))
  (wRetF (rC (.bl false)))
  wNext)
variable {P : PEnds} {x : PX} {B : Addr} {s0 s1 s2 s3 s4 s5 s6 s7 s8 s9 s10 s11 s12 s13 s14 s15 s16 s17 s18 s19 s20 : Option S}
theorem mem_of_lt {α : Type} {xs : List α} {i : Int} (h0 : 0 ≤ i) (h : i < xs.length) : ∃ v, L2.atI xs i = some v ∧ v ∈ xs := by
  obtain ⟨n, rfl⟩ : ∃ n : Nat, (n : Int) = i := ⟨i.toNat, by omega⟩
  have hlt : n < xs.length := by omega
  exact ⟨_, by rw [atI_cast, List.getElem?_eq_getElem hlt], List.getElem_mem hlt⟩
def hsD (t : T) : D := .lst ((t.places.map fun p => ((p : Nat) : Int)).map D.int)
theorem law_10 {t : T} (h : t.ok) (hl : t.words.length ≤ 60) (hP : P.nx [s0, s1, s2, s3, s4, s5, some (.fz (W t.words)), s7, s8, some (.fz (hsD t)), s10, s11, s12, s13, s14, s15, s16, s17, s18, s19, s20]) :
    wL10 P (fun c fs _ => x c fs) [s0, s1, s2, s3, s4, s5, some (.fz (W t.words)), s7, s8, s9, s10, s11, s12, s13, s14, s15, s16, s17, s18, s19, s20] := by
  refine ⟨t.words, rfl, hl, ?_⟩
  rw [places_eq h hl]
  exact hP
theorem places_pos (t : T) : 0 < t.places.length := by cases t <;> simp [T.places]
theorem law_11 {t : T} {row : List Int} {g0 g1 g2 g3 g4 g5 g6 g7 g8 : Int} (hr : Row9 row g0 g1 g2 g3 g4 g5 g6 g7 g8) (hP : ∀ p ∈ t.places, P.nx [s0, some (.fz (.lst (row.map D.int))), s2, s3, s4, s5, s6, s7, s8, some (.fz (hsD t)), some (.fz (.int (p : Nat))), s11, s12, s13, s14, s15, s16, s17, s18, s19, s20]) :
    wL11 P (fun c fs _ => x c fs) [s0, some (.fz (.lst (row.map D.int))), s2, s3, s4, s5, s6, s7, s8, some (.fz (hsD t)), s10, s11, s12, s13, s14, s15, s16, s17, s18, s19, s20] := by
  obtain rfl := hr.e
  have hp := places_pos t
  obtain ⟨v, v1, v2⟩ := mem_of_mod (xs := (t.places.map fun p => ((p : Nat) : Int)).map D.int) (i := g3) (by simpa using hp)
  obtain ⟨z, z1, rfl⟩ := List.mem_map.mp v2
  obtain ⟨p, p1, rfl⟩ := List.mem_map.mp z1
  exact ⟨.int g3, rfl, by simpa using hp, _, v1, hP p p1⟩
theorem law_12 {row : List Int} {g0 g1 g2 g3 g4 g5 g6 g7 g8 : Int} (hr : Row9 row g0 g1 g2 g3 g4 g5 g6 g7 g8) (hP : ∀ b ∈ bads, P.nx [s0, some (.fz (.lst (row.map D.int))), s2, s3, s4, s5, s6, s7, s8, s9, s10, some (.fz (.str b)), s12, s13, s14, s15, s16, s17, s18, s19, s20]) :
    wL12 P (fun c fs _ => x c fs) [s0, some (.fz (.lst (row.map D.int))), s2, s3, s4, s5, s6, s7, s8, s9, s10, s11, s12, s13, s14, s15, s16, s17, s18, s19, s20] := by
  obtain rfl := hr.e
  obtain ⟨v, v1, v2⟩ := mem_of_lt (xs := bads.map D.str) (i := g2) hr.b2.1 hr.b2.2
  obtain ⟨b, b1, rfl⟩ := List.mem_map.mp v2
  exact ⟨by simp, .int g2, rfl, _, v1, hP b b1⟩
theorem law_16 {row : List Int} {g0 g1 g2 g3 g4 g5 g6 g7 g8 : Int} (hr : Row9 row g0 g1 g2 g3 g4 g5 g6 g7 g8) (hP : ∀ b ∈ wrongs, P.nx [s0, some (.fz (.lst (row.map D.int))), s2, s3, s4, s5, s6, s7, s8, s9, s10, s11, s12, s13, some (.fz (.str b)), s15, s16, s17, s18, s19, s20]) :
    wL16 P (fun c fs _ => x c fs) [s0, some (.fz (.lst (row.map D.int))), s2, s3, s4, s5, s6, s7, s8, s9, s10, s11, s12, s13, s14, s15, s16, s17, s18, s19, s20] := by
  obtain rfl := hr.e
  obtain ⟨v, v1, v2⟩ := mem_of_lt (xs := wrongs.map D.str) (i := g2) hr.b2.1 hr.b2.2
  obtain ⟨b, b1, rfl⟩ := List.mem_map.mp v2
  exact ⟨by simp, .int g2, rfl, _, v1, hP b b1⟩
theorem put_len20 {ws : List Str} {j : Nat} {b : Str} (h : ∀ w ∈ ws, w.length ≤ 20) (hb : b.length ≤ 20) : ∀ w ∈ put ws j b, w.length ≤ 20 := by
  intro w hw
  unfold put at hw
  rcases List.mem_append.mp hw with hw | hw
  · rcases List.mem_append.mp hw with hw | hw
    · exact h w (List.mem_of_mem_take hw)
    · rw [List.mem_singleton.mp hw]; exact hb
  · exact h w (List.mem_of_mem_drop hw)
theorem law_13 {t : T} {p : Nat} {b : Str} (h : t.ok) (hl : t.words.length ≤ 60) (hp : p ∈ t.places) (hb : b ∈ bads) (hP : P.nx [s0, s1, s2, s3, s4, s5, some (.fz (W t.words)), s7, s8, s9, some (.fz (.int p)), some (.fz (.str b)), s12, s13, s14, s15, s16, s17, s18, s19, s20]) :
    wL13 B P (fun c fs _ => x c fs) [s0, s1, s2, s3, s4, s5, some (.fz (W t.words)), s7, s8, s9, some (.fz (.int p)), some (.fz (.str b)), s12, s13, s14, s15, s16, s17, s18, s19, s20] := by
  have hj : p < t.words.length := by have := t.places_lt h p hp; omega
  have hbo := bads_ok b hb
  have hlen : ∀ w ∈ put t.words p b, w.length ≤ 20 := put_len20 (len_of h) (by omega)
  have hpl : (put t.words p b).length ≤ 200 := by rw [put_len hj]; omega
  simp only [wL13, rVar, rC, Pu.r2, rNil, rCons, rTup, rLst, rT, rTru, rAnd, rOr, rNot, rAndV, rOrV, rNotV, rIf, rCall, roNo, roSo, rSlice, Pu.r1, rM1, rFn, riSeq, riStr, riR1, riR2, rgName, rgNil, rgCons, rgTup, rLc, rYes, wNext, wSeq, wFrz, wSet, wAsg, wDrop, wRet, wRetF, wRetN, wBrk, wCont, wIf, wFor, wWhile, wApp, wExt, wPop, wPut, peek, rLenO, rTruO, rIxO, rInO, wCallG, wRaise, rXf, rXi, rXi2, hNil, hPlain, hNamed, wTry, fI, fSub, fMul, fDiv, fMod, fPow, fLt, fLe, fGt, fGe, fAdd, fEq, fNe, fIsN, fNotN, fIx, fMulA, fNeg, fInD, fIxD]
  simp [W]
  refine ⟨small_size (by omega), small_size (by omega), put t.words p b, ?_, jb hlen hpl, _, rfl, by have := jlen hlen hpl; omega, ?_⟩
  · unfold put
    simp [List.map_take, List.map_drop]
  · rw [parse_head h (t.gw h) hl hp hbo.1 hbo.2.1 hbo.2.2.1]
    simp
    exact hP
def spots (t : T) : List Nat := (List.range' 0 t.words.length).filter fun k => !decide ((k : Int) ∈ t.places.map fun p => ((p : Nat) : Int))
theorem mem_spots {t : T} {k : Nat} : k ∈ spots t ↔ k < t.words.length ∧ k ∉ t.places := by
  unfold spots
  rw [List.mem_filter, List.mem_range'_1]
  simp
  intro _
  constructor
  · intro h hm
    exact h k hm rfl
  · intro h q hq e
    have : q = k := by omega
    exact h (this ▸ hq)
theorem spots_pos {t : T} (h : t.ok) : 0 < (spots t).length := by
  have h3 := t.words_len h
  refine List.length_pos_iff_exists_mem.mpr ⟨t.words.length - 1, mem_spots.mpr ⟨by omega, fun hm => ?_⟩⟩
  have := t.places_lt h _ hm
  omega
theorem law_14 {t : T} (hl : t.words.length ≤ 60) (hP : P.nx [s0, s1, s2, s3, s4, s5, some (.fz (W t.words)), s7, s8, some (.fz (hsD t)), s10, s11, some (.ls true ((spots t).map fun (k : Nat) => D.int k)), s13, s14, s15, s16, s17, s18, s19, s20]) :
    wL14 P (fun c fs _ => x c fs) [s0, s1, s2, s3, s4, s5, some (.fz (W t.words)), s7, s8, some (.fz (hsD t)), s10, s11, s12, s13, s14, s15, s16, s17, s18, s19, s20] := by
  have e : ∀ q : List D → Prop, q ((spots t).map fun (k : Nat) => D.int k) → lcF (rgName 20) (rT (rInO true (rVar 20) 9)) (rVar 20) [s0, s1, s2, s3, s4, s5, some (.fz (W t.words)), s7, s8, some (.fz (hsD t)), s10, s11, s12, s13, s14, s15, s16, s17, s18, s19, none] ((List.range' 0 t.words.length).map fun (i : Nat) => D.int i) [] q := fun q hq => by
    refine lc_filter (f := fun d => d) (p := fun d => match d with | .int k => !decide (k ∈ t.places.map fun p => ((p : Nat) : Int)) | _ => false) [] (fun d hd k hk => ?_) (fun d hd k hk => ?_) (by simp; omega) ?_
    · obtain ⟨a, ha, rfl⟩ := List.mem_map.mp hd
      simp only [rT, rInO, rVar, hsD, peek, List.set_cons_succ, List.set_cons_zero, List.getElem?_cons_succ, List.getElem?_cons_zero, S.d]
      rw [notin_lstI]
      exact hk
    · obtain ⟨a, ha, rfl⟩ := List.mem_map.mp hd
      simp
      exact hk _ rfl
    · have ee : ∀ l : List Nat, (((l : List Nat).map fun (i : Nat) => D.int i).filter fun d => match d with | .int k => !decide (k ∈ t.places.map fun p => ((p : Nat) : Int)) | _ => false) = (l.filter fun (k : Nat) => !decide ((k : Int) ∈ t.places.map fun p => ((p : Nat) : Int))).map fun (k : Nat) => D.int k := fun l => by
        rw [List.filter_map]
        rfl
      rw [List.nil_append, ee, List.map_id']
      exact hq
  have l1 : ((t.words.map D.str).length : Int) = t.words.length := by simp
  refine ⟨⟨?_, ?_⟩, ?_⟩
  · show (-(2 ^ 62) : Int) ≤ ((t.words.map D.str).length : Int)
    omega
  · show ((t.words.map D.str).length : Int) < 2 ^ 62
    omega
  · show lcF _ _ _ _ (rangeD 0 ((t.words.map D.str).length : Int)) [] _
    rw [l1, rangeD0]
    exact e _ hP
theorem law_15 {t : T} {row : List Int} {g0 g1 g2 g3 g4 g5 g6 g7 g8 : Int} (h : t.ok) (hr : Row9 row g0 g1 g2 g3 g4 g5 g6 g7 g8) (hP : ∀ p : Nat, p < t.words.length → p ∉ t.places → P.nx [s0, some (.fz (.lst (row.map D.int))), s2, s3, s4, s5, s6, s7, s8, s9, s10, s11, some (.ls true ((spots t).map fun (k : Nat) => D.int k)), some (.fz (.int p)), s14, s15, s16, s17, s18, s19, s20]) :
    wL15 P (fun c fs _ => x c fs) [s0, some (.fz (.lst (row.map D.int))), s2, s3, s4, s5, s6, s7, s8, s9, s10, s11, some (.ls true ((spots t).map fun (k : Nat) => D.int k)), s13, s14, s15, s16, s17, s18, s19, s20] := by
  obtain rfl := hr.e
  have hp := spots_pos h
  obtain ⟨v, v1, v2⟩ := mem_of_mod (xs := (spots t).map fun (k : Nat) => D.int k) (i := g4) (by simpa using hp)
  obtain ⟨p, p1, rfl⟩ := List.mem_map.mp v2
  have pm := mem_spots.mp p1
  exact ⟨.int g4, rfl, by simpa using hp, _, v1, hP p pm.1 pm.2⟩
theorem law_17 {t : T} {p : Nat} {b : Str} (h : t.ok) (hl : t.words.length ≤ 60) (hj : p < t.words.length) (hp : p ∉ t.places) (hb : b ∈ wrongs) (hP : P.nx [s0, s1, s2, s3, s4, s5, some (.fz (W t.words)), s7, s8, s9, s10, s11, s12, some (.fz (.int p)), some (.fz (.str b)), s15, s16, s17, s18, s19, s20]) :
    wL17 B P (fun c fs _ => x c fs) [s0, s1, s2, s3, s4, s5, some (.fz (W t.words)), s7, s8, s9, s10, s11, s12, some (.fz (.int p)), some (.fz (.str b)), s15, s16, s17, s18, s19, s20] := by
  have hbo := wrongs_ok b hb
  have hlen : ∀ w ∈ put t.words p b, w.length ≤ 20 := put_len20 (len_of h) (by omega)
  have hpl : (put t.words p b).length ≤ 200 := by rw [put_len hj]; omega
  simp only [wL17, rVar, rC, Pu.r2, rNil, rCons, rTup, rLst, rT, rTru, rAnd, rOr, rNot, rAndV, rOrV, rNotV, rIf, rCall, roNo, roSo, rSlice, Pu.r1, rM1, rFn, riSeq, riStr, riR1, riR2, rgName, rgNil, rgCons, rgTup, rLc, rYes, wNext, wSeq, wFrz, wSet, wAsg, wDrop, wRet, wRetF, wRetN, wBrk, wCont, wIf, wFor, wWhile, wApp, wExt, wPop, wPut, peek, rLenO, rTruO, rIxO, rInO, wCallG, wRaise, rXf, rXi, rXi2, hNil, hPlain, hNamed, wTry, fI, fSub, fMul, fDiv, fMod, fPow, fLt, fLe, fGt, fGe, fAdd, fEq, fNe, fIsN, fNotN, fIx, fMulA, fNeg, fInD, fIxD]
  simp [W]
  refine ⟨small_size (by omega), small_size (by omega), put t.words p b, ?_, jb hlen hpl, _, rfl, by have := jlen hlen hpl; omega, ?_⟩
  · unfold put
    simp [List.map_take, List.map_drop]
  · rw [parse_spot h (t.gw h) hl hj hp hbo.1 hbo.2.1]
    simp
    exact hP
theorem law_18 {t : T} {row : List Int} {g0 g1 g2 g3 g4 g5 g6 g7 g8 : Int} (h : t.ok) (hr : Row9 row g0 g1 g2 g3 g4 g5 g6 g7 g8) (hP : ∀ p : Nat, p < t.words.length → P.nx [s0, some (.fz (.lst (row.map D.int))), s2, s3, s4, s5, some (.fz (W t.words)), s7, s8, s9, s10, s11, s12, s13, s14, some (.fz (.int p)), s16, s17, s18, s19, s20]) :
    wL18 P (fun c fs _ => x c fs) [s0, some (.fz (.lst (row.map D.int))), s2, s3, s4, s5, some (.fz (W t.words)), s7, s8, s9, s10, s11, s12, s13, s14, s15, s16, s17, s18, s19, s20] := by
  obtain rfl := hr.e
  have h3 := t.words_len h
  have e : (((t.words.map D.str).length : Nat) : Int) = t.words.length := by simp
  have hm0 := Int.emod_nonneg g5 (b := t.words.length) (by omega)
  have hm1 := Int.emod_lt_of_pos g5 (b := t.words.length) (by omega)
  have key := hP (g5 % t.words.length).toNat (by omega)
  rw [show (((g5 % t.words.length).toNat : Nat) : Int) = g5 % t.words.length by omega, ← e] at key
  exact ⟨.int g5, rfl, by rw [e]; omega, key⟩
theorem law_19 {t : T} {p : Nat} (h : t.ok) (hl : t.words.length ≤ 60) (hP : P.nx [s0, s1, s2, s3, s4, s5, some (.fz (W t.words)), s7, s8, s9, s10, s11, s12, s13, s14, some (.fz (.int p)), some (.fz (.str (Txt.join " " (t.words.take p)))), s17, s18, s19, s20]) :
    wL19 P (fun c fs _ => x c fs) [s0, s1, s2, s3, s4, s5, some (.fz (W t.words)), s7, s8, s9, s10, s11, s12, s13, s14, some (.fz (.int p)), s16, s17, s18, s19, s20] := by
  have hlen : ∀ w ∈ t.words.take p, w.length ≤ 20 := fun w hw => len_of h w (List.mem_of_mem_take hw)
  simp only [wL19, rVar, rC, Pu.r2, rNil, rCons, rTup, rLst, rT, rTru, rAnd, rOr, rNot, rAndV, rOrV, rNotV, rIf, rCall, roNo, roSo, rSlice, Pu.r1, rM1, rFn, riSeq, riStr, riR1, riR2, rgName, rgNil, rgCons, rgTup, rLc, rYes, wNext, wSeq, wFrz, wSet, wAsg, wDrop, wRet, wRetF, wRetN, wBrk, wCont, wIf, wFor, wWhile, wApp, wExt, wPop, wPut, peek, rLenO, rTruO, rIxO, rInO, wCallG, wRaise, rXf, rXi, rXi2, hNil, hPlain, hNamed, wTry, fI, fSub, fMul, fDiv, fMod, fPow, fLt, fLe, fGt, fGe, fAdd, fEq, fNe, fIsN, fNotN, fIx, fMulA, fNeg, fInD, fIxD]
  simp [W]
  refine ⟨t.words.take p, by simp [List.map_take], jb hlen (by rw [List.length_take]; omega), ?_⟩
  exact hP
theorem law_20 {t : T} {p : Nat} (h : t.ok) (hl : t.words.length ≤ 60) (hp : p < t.words.length) (hP : P.nx [s0, s1, s2, s3, s4, s5, s6, s7, s8, s9, s10, s11, s12, s13, s14, some (.fz (.int p)), some (.fz (.str (Txt.join " " (t.words.take p)))), s17, s18, s19, s20]) :
    wL20 B P (fun c fs _ => x c fs) [s0, s1, s2, s3, s4, s5, s6, s7, s8, s9, s10, s11, s12, s13, s14, some (.fz (.int p)), some (.fz (.str (Txt.join " " (t.words.take p)))), s17, s18, s19, s20] := by
  have hlen : ∀ w ∈ t.words.take p, w.length ≤ 20 := fun w hw => len_of h w (List.mem_of_mem_take hw)
  simp only [wL20, rVar, rC, Pu.r2, rNil, rCons, rTup, rLst, rT, rTru, rAnd, rOr, rNot, rAndV, rOrV, rNotV, rIf, rCall, roNo, roSo, rSlice, Pu.r1, rM1, rFn, riSeq, riStr, riR1, riR2, rgName, rgNil, rgCons, rgTup, rLc, rYes, wNext, wSeq, wFrz, wSet, wAsg, wDrop, wRet, wRetF, wRetN, wBrk, wCont, wIf, wFor, wWhile, wApp, wExt, wPop, wPut, peek, rLenO, rTruO, rIxO, rInO, wCallG, wRaise, rXf, rXi, rXi2, hNil, hPlain, hNamed, wTry, fI, fSub, fMul, fDiv, fMod, fPow, fLt, fLe, fGt, fGe, fAdd, fEq, fNe, fIsN, fNotN, fIx, fMulA, fNeg, fInD, fIxD]
  simp
  refine ⟨_, rfl, by have := jlen hlen (by rw [List.length_take]; omega); omega, ?_⟩
  rw [parse_cut h (t.gw h) hp (by omega)]
  simp
  exact hP
end K90
set_option Elab.async false
set_option linter.all false
set_option maxRecDepth 100000
set_option maxHeartbeats 1000000
namespace K90
open PySem PySem.Spec PyProof.Rows L2 Pu
def wL21 (ABadClaim : Addr) : RS := (wIf (rAnd (rT (r2 fLt (rLenO 6) (rC (.int 60)))) (rT (r2 fNe (rFn (φ_law_fault ABadClaim) (rCons (r2 fAdd (r2 fAdd (rVar 7) (rC (.str " "))) (rIxO 6 (rC (.int 0)))) rNil)) (r2 fAdd (rLenO 6) (rC (.int 1))))))
  (wRetF (rC (.bl false)))
  wNext)
def wL22 (ABadClaim : Addr) : RS := (wIf (rOr (rT (r2 fNe (rFn (φ_law_fault ABadClaim) (rCons (r2 fAdd (rVar 7) (rC (.str " "))) rNil)) (rC (.int 0)))) (rOr (rT (r2 fNe (rFn (φ_law_fault ABadClaim) (rCons (r2 fAdd (rC (.str " ")) (rVar 7)) rNil)) (rC (.int 0)))) (rT (r2 fNe (rFn (φ_law_fault ABadClaim) (rCons (rRep1 " " "  " (rVar 7)) rNil)) (rC (.int 0))))))
  (wRetF (rC (.bl false)))
  wNext)
def wL23 (ABadClaim : Addr) : RS := (wIf (rOr (rT (r2 fNe (rFn (φ_law_fault ABadClaim) (rCons (r2 fAdd (rVar 7) (rC (.str "\n"))) rNil)) (rLenO 6))) (rOr (rT (r2 fNe (rFn (φ_law_fault ABadClaim) (rCons (rRep1 " " "\n" (rVar 7)) rNil)) (rC (.int 1)))) (rT (r2 fNe (rFn (φ_law_fault ABadClaim) (rCons (rC (.str " ")) rNil)) (rC (.int 0))))))
  (wRetF (rC (.bl false)))
  wNext)
def wL24 : RS := (wSet 17 (rFn φ_law_deep (rCons (rVar 6) (rCons (r2 fSub (rC (.int 12)) (rIxO 5 (rC (.int 2)))) rNil))))
def wL25a (ABadClaim : Addr) : RS := (wIf (rOr (rT (r2 fNe (rFn (φ_law_fault ABadClaim) (rCons (rM1 fJoin (rC (.str " ")) (rVar 3)) rNil)) (rC (.int 0)))) (rT (r2 fNe (rFn (φ_law_fault ABadClaim) (rCons (rM1 fJoin (rC (.str " ")) (rSlice (rVar 3) roNo (roSo (Pu.r1 fNeg (rC (.int 1)))))) rNil)) (rLenO 3))))
  (wRetF (rC (.bl false)))
  wNext)
def wL25b (ABadClaim : Addr) : RS := (wIf (rAnd (rT (r2 fLt (rLenO 3) (rC (.int 60)))) (rT (r2 fNe (rFn (φ_law_fault ABadClaim) (rCons (rM1 fJoin (rC (.str " ")) (r2 fAdd (rVar 3) (rLst (rCons (rC (.str "x")) rNil)))) rNil)) (r2 fAdd (rLenO 3) (rC (.int 1))))))
  (wRetF (rC (.bl false)))
  wNext)
def wL25c (ABadClaim : Addr) : RS := (wIf (rT (r2 fLe (rLenO 3) (rC (.int 60)))) (wSeq (wL25a ABadClaim) (wL25b ABadClaim)) wNext)
def wL25d (ABadClaim : Addr) : RS := (wSet 19 (rFn (φ_parse_claim ABadClaim) (rCons (rM1 fJoin (rC (.str " ")) (rVar 17)) rNil)))
def wL25e : RS := (wIf (rT (r2 fNe (rFn φ_format_claim (rCons (rVar 19) rNil)) (rM1 fJoin (rC (.str " ")) (rVar 17))))
  (wRetF (rC (.bl false)))
  wNext)
def wL25f : RS := (wSet 3 (rFn φ_law_deep (rCons (rVar 17) (rCons (r2 fAdd (rC (.int 1)) (r2 fMod (rIxO 1 (rC (.int 6))) (rC (.int 3)))) rNil))))
def wL25 (ABadClaim : Addr) : RS := (wIf (rT (r2 fLe (rLenO 17) (rC (.int 60)))) (wSeq (wL25d ABadClaim) (wSeq wL25e (wSeq wL25f (wL25c ABadClaim)))) wNext)
def wL26 : RS := (wSet 18 (rFn φ_law_deep (rCons (rVar 6) (rCons (r2 fSub (rC (.int 61)) (rLenO 6)) rNil))))
def wL27 (ABadClaim : Addr) : RS := (wRetF (rAndV (r2 fEq (rFn (φ_law_fault ABadClaim) (rCons (rM1 fJoin (rC (.str " ")) (rVar 18)) rNil)) (rC (.int 0))) (rAndV (r2 fEq (rFn (φ_law_fault ABadClaim) (rCons (rM1 fJoin (rC (.str " ")) (r2 fAdd (rSlice (rVar 18) roNo (roSo (Pu.r1 fNeg (rC (.int 1))))) (rLst (rCons (rC (.str "Zz")) rNil)))) rNil)) (rC (.int 0))) (r2 fEq (rFn (φ_law_fault ABadClaim) (rCons (rC (.str "")) rNil)) (rC (.int 1))))))
variable {P : PEnds} {x : PX} {B : Addr} {s0 s1 s2 s3 s4 s5 s6 s7 s8 s9 s10 s11 s12 s13 s14 s15 s16 s17 s18 s19 s20 : Option S}
theorem len_nl : (Str.ofString "\n").length = 1 := by decide +kernel
theorem len_sp2 : (Str.ofString "  ").length = 2 := by decide +kernel
theorem cl_len (s : Str) : s.length = (cl s).length := by simp [cl, Str.length]
theorem rep_len {t : T} (h : t.ok) (z : Str) : (rep1 (Txt.join " " t.words) " " z).length ≤ (Txt.join " " t.words).length + z.length := by
  have hg := t.gw h
  have h3 := t.words_len h
  match e : t.words, h3 with
  | w0 :: w1 :: rest, _ =>
    rw [e] at hg
    have e1 := cl_rep_join (w1 := w1) (rest := rest) z (hg w0 List.mem_cons_self)
    have e2 := cl_join (w0 :: w1 :: rest)
    have e3 : jl ((w0 :: w1 :: rest).map cl) = cl w0 ++ 32 :: jl ((w1 :: rest).map cl) := rfl
    rw [cl_len, e1, cl_len (Txt.join _ _), e2, e3, cl_len z]
    simp only [List.length_append, List.length_cons]
    omega
theorem tlen {t : T} (h : t.ok) (hl : t.words.length ≤ 100) : (Txt.join " " t.words).length ≤ 5000 := jlen (len_of h) (by omega)
theorem law_21 {t : T} (h : t.ok) (hl : t.words.length ≤ 60) (hP : P.nx [s0, s1, s2, s3, s4, s5, some (.fz (W t.words)), some (.fz (.str (Txt.join " " t.words))), s8, s9, s10, s11, s12, s13, s14, s15, s16, s17, s18, s19, s20]) :
    wL21 B P (fun c fs _ => x c fs) [s0, s1, s2, s3, s4, s5, some (.fz (W t.words)), some (.fz (.str (Txt.join " " t.words))), s8, s9, s10, s11, s12, s13, s14, s15, s16, s17, s18, s19, s20] := by
  have h3 := t.words_len h
  have hlen := tlen h (by omega)
  obtain ⟨w0, e0⟩ : ∃ w0, t.words[0]? = some w0 := ⟨_, List.getElem?_eq_getElem (by omega)⟩
  have m0 : w0 ∈ t.words := List.mem_of_getElem? e0
  have hne : t.words ≠ [] := by intro e; rw [e] at h3; simp at h3
  simp only [wL21, rVar, rC, Pu.r2, rNil, rCons, rTup, rLst, rT, rTru, rAnd, rOr, rNot, rAndV, rOrV, rNotV, rIf, rCall, roNo, roSo, rSlice, Pu.r1, rM1, rFn, riSeq, riStr, riR1, riR2, rgName, rgNil, rgCons, rgTup, rLc, rYes, wNext, wSeq, wFrz, wSet, wAsg, wDrop, wRet, wRetF, wRetN, wBrk, wCont, wIf, wFor, wWhile, wApp, wExt, wPop, wPut, peek, rLenO, rTruO, rIxO, rInO, wCallG, wRaise, rXf, rXi, rXi2, hNil, hPlain, hNamed, wTry, fI, fSub, fMul, fDiv, fMod, fPow, fLt, fLe, fGt, fGe, fAdd, fEq, fNe, fIsN, fNotN, fIx, fMulA, fNeg, fInD, fIxD]
  simp [W, e0]
  by_cases h6 : (t.words.length : Int) < 60
  · rw [if_pos h6]
    have l0 := len_of h w0 m0
    refine ⟨small_size (by rw [len_sp]; omega), small_size (by rw [len_add, len_sp]; omega), _, rfl, by rw [len_add, len_add, len_sp]; omega, ?_⟩
    rw [join_more hne, parse_over h (t.gw h) (t.gw h w0 m0) (by omega)]
    simp
    exact hP
  · rw [if_neg h6]
    exact hP
theorem law_22 {t : T} (h : t.ok) (hl : t.words.length ≤ 60) (hP : P.nx [s0, s1, s2, s3, s4, s5, s6, some (.fz (.str (Txt.join " " t.words))), s8, s9, s10, s11, s12, s13, s14, s15, s16, s17, s18, s19, s20]) :
    wL22 B P (fun c fs _ => x c fs) [s0, s1, s2, s3, s4, s5, s6, some (.fz (.str (Txt.join " " t.words))), s8, s9, s10, s11, s12, s13, s14, s15, s16, s17, s18, s19, s20] := by
  have hlen := tlen h (by omega)
  simp only [wL22, rRep1, rVar, rC, Pu.r2, rNil, rCons, rTup, rLst, rT, rTru, rAnd, rOr, rNot, rAndV, rOrV, rNotV, rIf, rCall, roNo, roSo, rSlice, Pu.r1, rM1, rFn, riSeq, riStr, riR1, riR2, rgName, rgNil, rgCons, rgTup, rLc, rYes, wNext, wSeq, wFrz, wSet, wAsg, wDrop, wRet, wRetF, wRetN, wBrk, wCont, wIf, wFor, wWhile, wApp, wExt, wPop, wPut, peek, rLenO, rTruO, rIxO, rInO, wCallG, wRaise, rXf, rXi, rXi2, hNil, hPlain, hNamed, wTry, fI, fSub, fMul, fDiv, fMod, fPow, fLt, fLe, fGt, fGe, fAdd, fEq, fNe, fIsN, fNotN, fIx, fMulA, fNeg, fInD, fIxD]
  simp
  refine ⟨small_size (by rw [len_sp]; omega), _, rfl, by rw [len_add, len_sp]; omega, ?_⟩
  rw [parse_sp_end]
  simp
  refine ⟨small_size (by rw [len_sp]; omega), _, rfl, by rw [len_add, len_sp]; omega, ?_⟩
  rw [parse_sp_front]
  simp
  refine ⟨by rw [len_sp2]; omega, _, rfl, ?_, ?_⟩
  · have := rep_len h "  "
    rw [len_sp2] at this
    omega
  · rw [sp_front h]
    simp
    exact hP
theorem law_23 {t : T} (h : t.ok) (hl : t.words.length ≤ 60) (hP : P.nx [s0, s1, s2, s3, s4, s5, some (.fz (W t.words)), some (.fz (.str (Txt.join " " t.words))), s8, s9, s10, s11, s12, s13, s14, s15, s16, s17, s18, s19, s20]) :
    wL23 B P (fun c fs _ => x c fs) [s0, s1, s2, s3, s4, s5, some (.fz (W t.words)), some (.fz (.str (Txt.join " " t.words))), s8, s9, s10, s11, s12, s13, s14, s15, s16, s17, s18, s19, s20] := by
  have hlen := tlen h (by omega)
  simp only [wL23, rRep1, rVar, rC, Pu.r2, rNil, rCons, rTup, rLst, rT, rTru, rAnd, rOr, rNot, rAndV, rOrV, rNotV, rIf, rCall, roNo, roSo, rSlice, Pu.r1, rM1, rFn, riSeq, riStr, riR1, riR2, rgName, rgNil, rgCons, rgTup, rLc, rYes, wNext, wSeq, wFrz, wSet, wAsg, wDrop, wRet, wRetF, wRetN, wBrk, wCont, wIf, wFor, wWhile, wApp, wExt, wPop, wPut, peek, rLenO, rTruO, rIxO, rInO, wCallG, wRaise, rXf, rXi, rXi2, hNil, hPlain, hNamed, wTry, fI, fSub, fMul, fDiv, fMod, fPow, fLt, fLe, fGt, fGe, fAdd, fEq, fNe, fIsN, fNotN, fIx, fMulA, fNeg, fInD, fIxD]
  simp [W]
  refine ⟨small_size (by rw [len_nl]; omega), _, rfl, by rw [len_add, len_nl]; omega, ?_⟩
  rw [nl_end h hl]
  simp
  refine ⟨by rw [len_nl]; omega, _, rfl, ?_, ?_⟩
  · have := rep_len h "\n"
    rw [len_nl] at this
    omega
  · rw [nl_front h hl]
    simp
    refine ⟨_, rfl, by rw [len_sp]; omega, ?_⟩
    rw [parse_sp]
    simp
    exact hP
theorem W_nots (m : Nat) (t : T) : W (List.replicate m ("not" : Str) ++ t.words) = W (T.nots m t).words := by rw [T.nots_words]
theorem law_24 {t : T} (h : t.ok) (hl : t.words.length ≤ 60) (hd : t.depth ≤ 12) (hP : P.nx [s0, s1, s2, s3, s4, some (.fz t.row), some (.fz (W t.words)), s7, s8, s9, s10, s11, s12, s13, s14, s15, s16, some (.fz (W (T.nots (12 - t.depth) t).words)), s18, s19, s20]) :
    wL24 P (fun c fs _ => x c fs) [s0, s1, s2, s3, s4, some (.fz t.row), some (.fz (W t.words)), s7, s8, s9, s10, s11, s12, s13, s14, s15, s16, s17, s18, s19, s20] := by
  refine ⟨_, rfl, trivial, t.words, 12 - t.depth, ?_, by omega, by omega, ?_⟩
  · show [W t.words, D.int (12 - (t.depth : Int))] = [W t.words, D.int ((12 - t.depth : Nat) : Int)]
    rw [show ((12 - t.depth : Nat) : Int) = 12 - (t.depth : Int) by omega]
  · rw [W_nots]
    exact hP
theorem law_26 {t : T} (h : t.ok) (hl : t.words.length ≤ 60) (hP : P.nx [s0, s1, s2, s3, s4, s5, some (.fz (W t.words)), s7, s8, s9, s10, s11, s12, s13, s14, s15, s16, s17, some (.fz (W (T.nots (61 - t.words.length) t).words)), s19, s20]) :
    wL26 P (fun c fs _ => x c fs) [s0, s1, s2, s3, s4, s5, some (.fz (W t.words)), s7, s8, s9, s10, s11, s12, s13, s14, s15, s16, s17, s18, s19, s20] := by
  refine ⟨trivial, t.words, 61 - t.words.length, ?_, by omega, by omega, ?_⟩
  · show [W t.words, D.int (61 - ((t.words.map D.str).length : Int))] = [W t.words, D.int ((61 - t.words.length : Nat) : Int)]
    rw [List.length_map, show ((61 - t.words.length : Nat) : Int) = 61 - (t.words.length : Int) by omega]
  · rw [W_nots]
    exact hP
theorem law_27 {u : T} (h : u.ok) (hl : u.words.length = 61) (hP : ∀ env, P.rt (.fz (.bl true)) env) :
    wL27 B P (fun c fs _ => x c fs) [s0, s1, s2, s3, s4, s5, s6, s7, s8, s9, s10, s11, s12, s13, s14, s15, s16, s17, some (.fz (W u.words)), s19, s20] := by
  have l20 := len_of h
  have hg := u.gw h
  have hz := wrongs_ok "Zz" (by simp [wrongs])
  have g2 : ∀ w ∈ u.words.dropLast ++ (["Zz"] : List Str), gw w := fun w hw => by
    rcases List.mem_append.mp hw with hw | hw
    · exact hg w (List.dropLast_subset _ hw)
    · rw [List.mem_singleton.mp hw]; exact hz.1
  have l2 : ∀ w ∈ u.words.dropLast ++ (["Zz"] : List Str), w.length ≤ 20 := fun w hw => by
    rcases List.mem_append.mp hw with hw | hw
    · exact l20 w (List.dropLast_subset _ hw)
    · rw [List.mem_singleton.mp hw]; have := hz.2.2; omega
  have n2 : (u.words.dropLast ++ (["Zz"] : List Str)).length = 61 := by simp; omega
  simp only [wL27, rVar, rC, Pu.r2, rNil, rCons, rTup, rLst, rT, rTru, rAnd, rOr, rNot, rAndV, rOrV, rNotV, rIf, rCall, roNo, roSo, rSlice, Pu.r1, rM1, rFn, riSeq, riStr, riR1, riR2, rgName, rgNil, rgCons, rgTup, rLc, rYes, wNext, wSeq, wFrz, wSet, wAsg, wDrop, wRet, wRetF, wRetN, wBrk, wCont, wIf, wFor, wWhile, wApp, wExt, wPop, wPut, peek, rLenO, rTruO, rIxO, rInO, wCallG, wRaise, rXf, rXi, rXi2, hNil, hPlain, hNamed, wTry, fI, fSub, fMul, fDiv, fMod, fPow, fLt, fLe, fGt, fGe, fAdd, fEq, fNe, fIsN, fNotN, fIx, fMulA, fNeg, fInD, fIxD]
  simp [W]
  refine ⟨u.words, rfl, jb l20 (by omega), _, rfl, by have := jlen l20 (by omega : u.words.length ≤ 200); omega, ?_⟩
  rw [parse_long hg (by omega)]
  simp
  refine ⟨small_size (by omega), u.words.dropLast ++ (["Zz"] : List Str), by simp [List.map_dropLast], jb l2 (by omega), _, rfl, by have := jlen l2 (by omega); omega, ?_⟩
  rw [parse_long g2 (by omega)]
  simp
  refine ⟨_, rfl, by decide +kernel, ?_⟩
  rw [parse_empty]
  simp
  exact hP _
theorem cut_agr {u : T} (h : u.ok) : Txt.join " " u.words.dropLast = Txt.join " " (u.words.take (u.words.length - 1)) := by rw [List.dropLast_eq_take]
theorem law_25a {u : T} (h : u.ok) (hl : u.words.length ≤ 60) (hd : 12 < u.depth) (hP : P.nx [s0, s1, s2, some (.fz (W u.words)), s4, s5, s6, s7, s8, s9, s10, s11, s12, s13, s14, s15, s16, s17, s18, s19, s20]) :
    wL25a B P (fun c fs _ => x c fs) [s0, s1, s2, some (.fz (W u.words)), s4, s5, s6, s7, s8, s9, s10, s11, s12, s13, s14, s15, s16, s17, s18, s19, s20] := by
  have l20 := len_of h
  have h3 := u.words_len h
  have l2 : ∀ w ∈ u.words.dropLast, w.length ≤ 20 := fun w hw => l20 w (List.dropLast_subset _ hw)
  have n2 : u.words.dropLast.length ≤ 200 := by rw [List.length_dropLast]; omega
  simp only [wL25a, rVar, rC, Pu.r2, rNil, rCons, rTup, rLst, rT, rTru, rAnd, rOr, rNot, rAndV, rOrV, rNotV, rIf, rCall, roNo, roSo, rSlice, Pu.r1, rM1, rFn, riSeq, riStr, riR1, riR2, rgName, rgNil, rgCons, rgTup, rLc, rYes, wNext, wSeq, wFrz, wSet, wAsg, wDrop, wRet, wRetF, wRetN, wBrk, wCont, wIf, wFor, wWhile, wApp, wExt, wPop, wPut, peek, rLenO, rTruO, rIxO, rInO, wCallG, wRaise, rXf, rXi, rXi2, hNil, hPlain, hNamed, wTry, fI, fSub, fMul, fDiv, fMod, fPow, fLt, fLe, fGt, fGe, fAdd, fEq, fNe, fIsN, fNotN, fIx, fMulA, fNeg, fInD, fIxD]
  simp [W]
  refine ⟨u.words, rfl, jb l20 (by omega), _, rfl, by have := jlen l20 (by omega : u.words.length ≤ 200); omega, ?_⟩
  rw [parse_deep h (u.gw h) hd]
  simp
  refine ⟨u.words.dropLast, by simp [List.map_dropLast], jb l2 n2, _, rfl, by have := jlen l2 n2; omega, ?_⟩
  rw [List.dropLast_eq_take, parse_cut h (u.gw h) (by omega) (by omega)]
  have e : ((u.words.length - 1 + 1 : Nat) : Int) = u.words.length := by omega
  simp only [e]
  simp
  exact hP
theorem law_25b {u : T} (h : u.ok) (hl : u.words.length ≤ 60) (hP : P.nx [s0, s1, s2, some (.fz (W u.words)), s4, s5, s6, s7, s8, s9, s10, s11, s12, s13, s14, s15, s16, s17, s18, s19, s20]) :
    wL25b B P (fun c fs _ => x c fs) [s0, s1, s2, some (.fz (W u.words)), s4, s5, s6, s7, s8, s9, s10, s11, s12, s13, s14, s15, s16, s17, s18, s19, s20] := by
  have l20 := len_of h
  have hx : isName "x" = true := by decide +kernel
  have l2 : ∀ w ∈ u.words ++ (["x"] : List Str), w.length ≤ 20 := fun w hw => by
    rcases List.mem_append.mp hw with hw | hw
    · exact l20 w hw
    · rw [List.mem_singleton.mp hw]; exact (name_mw hx).2
  have n2 : (u.words ++ (["x"] : List Str)).length ≤ 200 := by simp; omega
  simp only [wL25b, rVar, rC, Pu.r2, rNil, rCons, rTup, rLst, rT, rTru, rAnd, rOr, rNot, rAndV, rOrV, rNotV, rIf, rCall, roNo, roSo, rSlice, Pu.r1, rM1, rFn, riSeq, riStr, riR1, riR2, rgName, rgNil, rgCons, rgTup, rLc, rYes, wNext, wSeq, wFrz, wSet, wAsg, wDrop, wRet, wRetF, wRetN, wBrk, wCont, wIf, wFor, wWhile, wApp, wExt, wPop, wPut, peek, rLenO, rTruO, rIxO, rInO, wCallG, wRaise, rXf, rXi, rXi2, hNil, hPlain, hNamed, wTry, fI, fSub, fMul, fDiv, fMod, fPow, fLt, fLe, fGt, fGe, fAdd, fEq, fNe, fIsN, fNotN, fIx, fMulA, fNeg, fInD, fIxD]
  simp [W]
  by_cases h6 : (u.words.length : Int) < 60
  · rw [if_pos h6]
    refine ⟨small_size (by omega), u.words ++ (["x"] : List Str), by simp, jb l2 n2, _, rfl, by have := jlen l2 n2; omega, ?_⟩
    rw [parse_over h (u.gw h) (name_gw hx) (by omega)]
    simp
    exact hP
  · rw [if_neg h6]
    exact hP
theorem law_25c {u : T} (h : u.ok) (hd : 12 < u.depth) (hP : P.nx [s0, s1, s2, some (.fz (W u.words)), s4, s5, s6, s7, s8, s9, s10, s11, s12, s13, s14, s15, s16, s17, s18, s19, s20]) :
    wL25c B P (fun c fs _ => x c fs) [s0, s1, s2, some (.fz (W u.words)), s4, s5, s6, s7, s8, s9, s10, s11, s12, s13, s14, s15, s16, s17, s18, s19, s20] := by
  simp only [wL25c, rVar, rC, Pu.r2, rNil, rCons, rTup, rLst, rT, rTru, rAnd, rOr, rNot, rAndV, rOrV, rNotV, rIf, rCall, roNo, roSo, rSlice, Pu.r1, rM1, rFn, riSeq, riStr, riR1, riR2, rgName, rgNil, rgCons, rgTup, rLc, rYes, wNext, wSeq, wFrz, wSet, wAsg, wDrop, wRet, wRetF, wRetN, wBrk, wCont, wIf, wFor, wWhile, wApp, wExt, wPop, wPut, peek, rLenO, rTruO, rIxO, rInO, wCallG, wRaise, rXf, rXi, rXi2, hNil, hPlain, hNamed, wTry, fI, fSub, fMul, fDiv, fMod, fPow, fLt, fLe, fGt, fGe, fAdd, fEq, fNe, fIsN, fNotN, fIx, fMulA, fNeg, fInD, fIxD]
  simp [W]
  by_cases h6 : (u.words.length : Int) ≤ 60
  · rw [if_pos h6]
    exact law_25a h (by omega) hd (law_25b h (by omega) hP)
  · rw [if_neg h6]
    exact hP
theorem law_25d {u : T} (h : u.ok) (hl : u.words.length ≤ 60) (hd : u.depth ≤ 12) (hP : P.nx [s0, s1, s2, s3, s4, s5, s6, s7, s8, s9, s10, s11, s12, s13, s14, s15, s16, some (.fz (W u.words)), s18, some (.fz u.d), s20]) :
    wL25d B P (fun c fs _ => x c fs) [s0, s1, s2, s3, s4, s5, s6, s7, s8, s9, s10, s11, s12, s13, s14, s15, s16, some (.fz (W u.words)), s18, s19, s20] := by
  have l20 := len_of h
  refine ⟨u.words, rfl, jb l20 (by omega), Txt.join " " u.words, rfl, by have := jlen l20 (by omega : u.words.length ≤ 200); omega, ?_⟩
  rw [parse_whole h (u.gw h) hl hd]
  exact hP
theorem law_25e {u : T} (h : u.ok) (hl : u.words.length ≤ 60) (hP : P.nx [s0, s1, s2, s3, s4, s5, s6, s7, s8, s9, s10, s11, s12, s13, s14, s15, s16, some (.fz (W u.words)), s18, some (.fz u.d), s20]) :
    wL25e P (fun c fs _ => x c fs) [s0, s1, s2, s3, s4, s5, s6, s7, s8, s9, s10, s11, s12, s13, s14, s15, s16, some (.fz (W u.words)), s18, some (.fz u.d), s20] := by
  have hz := u.dsize_le h
  have l20 := len_of h
  refine ⟨u.d, rfl, pt_wordy _ u.pt, by omega, by rw [T.flat_d]; exact fsum l20 (by omega), ?_⟩
  rw [T.flat_d]
  refine ⟨u.words, rfl, jb l20 (by omega), ?_⟩
  simp only [S.d]
  refine ne_str rfl ?_
  exact hP
theorem law_25f {u : T} {row : List Int} {g0 g1 g2 g3 g4 g5 g6 g7 g8 : Int} (hl : u.words.length ≤ 60) (hr : Row9 row g0 g1 g2 g3 g4 g5 g6 g7 g8) (hP : ∀ m : Nat, 1 ≤ m → P.nx [s0, some (.fz (.lst (row.map D.int))), s2, some (.fz (W (T.nots m u).words)), s4, s5, s6, s7, s8, s9, s10, s11, s12, s13, s14, s15, s16, some (.fz (W u.words)), s18, s19, s20]) :
    wL25f P (fun c fs _ => x c fs) [s0, some (.fz (.lst (row.map D.int))), s2, s3, s4, s5, s6, s7, s8, s9, s10, s11, s12, s13, s14, s15, s16, some (.fz (W u.words)), s18, s19, s20] := by
  obtain rfl := hr.e
  have h6 := hr.b6
  refine ⟨.int g6, rfl, by omega, u.words, (1 + g6 % 3).toNat, ?_, by omega, by omega, ?_⟩
  · show [W u.words, D.int (1 + g6 % 3)] = [W u.words, D.int (((1 + g6 % 3).toNat : Nat) : Int)]
    rw [show (((1 + g6 % 3).toNat : Nat) : Int) = 1 + g6 % 3 by omega]
  · rw [W_nots]
    exact hP _ (by omega)
theorem law_25 {u : T} {row : List Int} {g0 g1 g2 g3 g4 g5 g6 g7 g8 : Int} (h : u.ok) (hd : u.depth = 12) (hr : Row9 row g0 g1 g2 g3 g4 g5 g6 g7 g8) (hP : ∀ s3 s19 : Option S, P.nx [s0, some (.fz (.lst (row.map D.int))), s2, s3, s4, s5, s6, s7, s8, s9, s10, s11, s12, s13, s14, s15, s16, some (.fz (W u.words)), s18, s19, s20]) :
    wL25 B P (fun c fs _ => x c fs) [s0, some (.fz (.lst (row.map D.int))), s2, s3, s4, s5, s6, s7, s8, s9, s10, s11, s12, s13, s14, s15, s16, some (.fz (W u.words)), s18, s19, s20] := by
  simp only [wL25, rVar, rC, Pu.r2, rNil, rCons, rTup, rLst, rT, rTru, rAnd, rOr, rNot, rAndV, rOrV, rNotV, rIf, rCall, roNo, roSo, rSlice, Pu.r1, rM1, rFn, riSeq, riStr, riR1, riR2, rgName, rgNil, rgCons, rgTup, rLc, rYes, wNext, wSeq, wFrz, wSet, wAsg, wDrop, wRet, wRetF, wRetN, wBrk, wCont, wIf, wFor, wWhile, wApp, wExt, wPop, wPut, peek, rLenO, rTruO, rIxO, rInO, wCallG, wRaise, rXf, rXi, rXi2, hNil, hPlain, hNamed, wTry, fI, fSub, fMul, fDiv, fMod, fPow, fLt, fLe, fGt, fGe, fAdd, fEq, fNe, fIsN, fNotN, fIx, fMulA, fNeg, fInD, fIxD]
  simp [W]
  by_cases h6 : (u.words.length : Int) ≤ 60
  · rw [if_pos h6]
    refine law_25d h (by omega) (by omega) (law_25e h (by omega) (law_25f (by omega) hr fun m hm => ?_))
    exact law_25c (T.nots_ok m u h) (by rw [T.nots_depth]; omega) (hP _ _)
  · rw [if_neg h6]
    exact hP _ _
end K90
set_option Elab.async false
set_option linter.all false
set_option maxRecDepth 100000
set_option maxHeartbeats 2000000
namespace K90
open PySem PySem.Spec PyProof.Rows L2 Pu
theorem ok_law (B : Addr) : ∀ ds q x, φ_law ds q x → w_law B { nx := fun _ => q (.fz .non), rt := fun s _ => q s } (fun c fs _ => x c fs) (start 21 ds) := by
  intro ds q x h
  obtain ⟨ns, rfl, hn, hq⟩ := h
  show (wSeq wL0 (wSeq wL1 (wSeq wL2 (wSeq wL3 (wSeq wL4 (wSeq wL5 (wSeq wL6 (wSeq (wL7 B) (wSeq wL8 (wSeq wL9 (wSeq wL10 (wSeq wL11 (wSeq wL12 (wSeq (wL13 B) (wSeq wL14 (wSeq wL15 (wSeq wL16 (wSeq (wL17 B) (wSeq wL18 (wSeq wL19 (wSeq (wL20 B) (wSeq (wL21 B) (wSeq (wL22 B) (wSeq (wL23 B) (wSeq wL24 (wSeq (wL25 B) (wSeq wL26 (wL27 B)))))))))))))))))))))))))))) _ _ _
  refine law_0 (x := x) hn fun row g0 g1 g2 g3 g4 g5 g6 g7 g8 hr => ?_
  refine law_1 (x := x) hn fun draw hdr => ?_
  refine law_2 (x := x) hn fun more hmo => ?_
  refine law_3 (x := x) hr fun nms hnl hno => ?_
  refine law_4 (x := x) hr hdr hmo hnl hno fun t ht hl hd => ?_
  refine law_5 (x := x) (law_6 (x := x) ht hl (law_7 (x := x) (B := B) ht hl hd (law_8 (x := x) ht hl hd (law_9 (x := x) ht hl hd (law_10 (x := x) ht hl (law_11 (x := x) hr fun p hp => ?_))))))
  refine law_12 (x := x) hr fun b hb => ?_
  refine law_13 (x := x) (B := B) ht hl hp hb (law_14 (x := x) hl (law_15 (x := x) ht hr fun p2 hp2 hp3 => ?_))
  refine law_16 (x := x) hr fun b2 hb2 => ?_
  refine law_17 (x := x) (B := B) ht hl hp2 hp3 hb2 (law_18 (x := x) ht hr fun c hc => ?_)
  refine law_19 (x := x) ht hl (law_20 (x := x) (B := B) ht hl hc (law_21 (x := x) (B := B) ht hl (law_22 (x := x) (B := B) ht hl (law_23 (x := x) (B := B) ht hl (law_24 (x := x) ht hl hd ?_)))))
  refine law_25 (x := x) (B := B) (T.nots_ok _ t ht) (by rw [T.nots_depth]; omega) hr fun s3 s19 => ?_
  refine law_26 (x := x) ht hl ?_
  exact law_27 (x := x) (B := B) (T.nots_ok _ t ht) (by rw [T.nots_words]; simp; omega) fun _ => hq
end K90
set_option Elab.async false
set_option linter.all false
set_option maxRecDepth 100000
set_option maxHeartbeats 4000000
namespace K90
open PySem PySem.Spec PyProof.Rows L2 Pu
def top (i : Nat) : Stmt := PySem.Challenge.pw_caresfor_k90_claim_texts.main.body.getD i (.Pass ⟨0, 0, 0, 0⟩)
structure Txt (P : Program) (w : World) (K : PySem.W.Frag) (mg : Str → Option Value) (base : Heap) where
  len : mg "len" = none
  int : mg "int" = none
  max : mg "max" = none
  range : mg "range" = none
  isinstance : mg "isinstance" = none
  list : mg "list" = none
  tuple : mg "tuple" = none
  str : mg "str" = none
  all : mg "all" = none
  LETTERS : GV K mg "LETTERS" (.str "abcdefghijklmnopqrstuvwxyz")
  SIGNS : GV K mg "SIGNS" (.str "abcdefghijklmnopqrstuvwxyz0123456789")
  NAMED : GV K mg "NAMED" dNAMED
  MOST_WORDS : GV K mg "MOST_WORDS" (.int 60)
  MOST_DEPTH : GV K mg "MOST_DEPTH" (.int 12)
  HOLDING : GD K w mg "HOLDING" kvHOLDING
  eBadClaim : Err P w K mg base "BadClaim" ["word"]
  eBadClaim_x : PySem.W.PuX K eBadClaim.C
  gBadClaim : mg "BadClaim" = some (.ref eBadClaim.C)
  ACareError : Addr
  ABadLine : Addr
  ABadNode : Addr
  gCareError : mg "CareError" = some (.ref ACareError)
  gBadLine : mg "BadLine" = some (.ref ABadLine)
  gBadNode : mg "BadNode" = some (.ref ABadNode)
section
variable {P : Program} {w : World} {K : PySem.W.Frag} {mg : Str → Option Value} {base : Heap}
abbrev s_is_name : Stmt := top 8
theorem sc_is_name : FnScope ["text", "sign"] ["text"] (defScope s_is_name) := ⟨rfl, rfl, rfl, by decide +kernel, rfl, by decide +kernel, by decide +kernel⟩

theorem fn_is_name {f : Addr} {fd : FuncData} (F : Fun K "is_name" "is_name" s_is_name f fd) (T : Txt P w K mg base) 
    (len : ∀ ds q x, φ_is_name ds q x → ds.length = 1) (ok : ∀ ds q x, φ_is_name ds q x → w_is_name { nx := fun _ => q (.fz .non), rt := fun s _ => q s } (fun c fs _ => x c fs) (start 2 ds)) :
    FnOk P w K mg base (L2.CX P w) 1 f fd ["text"] (spF K φ_is_name) := by
  refine def_ok (k := 0) F sc_is_name len fun cdv A outer s H E hr tk => ⟨w_is_name,
  (dss_cons (ds_if (dt_w (dw_or (dt_lt (de_lenO 0 T.len) de_int) (dw_or (dt_gt (de_lenO 0 T.len) de_int) (dw_one_or (dt_notin (de_ixO 0 de_int) (de_gv T.LETTERS))))))
  (dss_one (ds_retF de_bl))
  dss_nil)
  (dss_one (ds_retF (de_all rfl T.all (da_cons (de_lc [("sign", 1)] rfl sc_is_name.nd (di_str (dv 0)) (by show blkC ["text", "sign"] (defScope s_is_name) _ _ = true; decide +kernel) (fun _ _ _ _ _ => (dg_name 1 sc_is_name.nd)) (fun _ _ _ _ _ => dts_nil) (fun _ _ _ _ _ => (de_in (dv 1) (de_gv T.SIGNS)))) da_nil))))), ok⟩
abbrev s_is_spaced : Stmt := top 11
theorem sc_is_spaced : FnScope ["line"] ["line"] (defScope s_is_spaced) := ⟨rfl, rfl, rfl, by decide +kernel, rfl, by decide +kernel, by decide +kernel⟩

theorem fn_is_spaced {f : Addr} {fd : FuncData} (F : Fun K "is_spaced" "is_spaced" s_is_spaced f fd) (T : Txt P w K mg base) 
    (len : ∀ ds q x, φ_is_spaced ds q x → ds.length = 1) (ok : ∀ ds q x, φ_is_spaced ds q x → w_is_spaced { nx := fun _ => q (.fz .non), rt := fun s _ => q s } (fun c fs _ => x c fs) (start 1 ds)) :
    FnOk P w K mg base (L2.CX P w) 1 f fd ["line"] (spF K φ_is_spaced) := by
  refine def_ok (k := 0) F sc_is_spaced len fun cdv A outer s H E hr tk => ⟨w_is_spaced,
  (dss_one (ds_retF (de_and (de_ne hr.units (dv 0) de_str) (de_and (de_ne hr.units (de_ixO 0 de_int) de_str) (de_and (de_ne hr.units (de_ixO 0 (de_neg de_int)) de_str) (de_one (de_lt (de_find (dv 0) de_str) de_int))))))), ok⟩
abbrev s_first_word : Stmt := top 17
theorem sc_first_word : FnScope ["words", "at"] ["words", "at"] (defScope s_first_word) := ⟨rfl, rfl, rfl, by decide +kernel, rfl, by decide +kernel, by decide +kernel⟩

theorem fn_first_word {f : Addr} {fd : FuncData} (F : Fun K "first_word" "first_word" s_first_word f fd) (T : Txt P w K mg base) 
    (len : ∀ ds q x, (φ_first_word T.eBadClaim.C) ds q x → ds.length = 2) (ok : ∀ ds q x, (φ_first_word T.eBadClaim.C) ds q x → w_first_word T.eBadClaim.C { nx := fun _ => q (.fz .non), rt := fun s _ => q s } (fun c fs _ => x c fs) (start 2 ds)) :
    FnOk P w K mg base (L2.CX P w) 3 f fd ["words", "at"] (spF K (φ_first_word T.eBadClaim.C)) := by
  refine def_ok (k := 2) F sc_first_word len fun cdv A outer s H E hr tk => ⟨w_first_word T.eBadClaim.C,
  (dss_cons (ds_if (dt_w (dw_or (dt_ge (dv 1) (de_lenO 0 T.len)) (dw_one_or (dt_w (dw_and (dt_notin (de_ixO 0 (dv 1)) (de_gv T.NAMED)) (dw_one_and (dt_notinD T.HOLDING (de_ixO 0 (dv 1)))))))))
  (dss_one (ds_raise T.eBadClaim rfl tk (hr.mono (by decide)) (da_cons (de_add (dv 1) de_int) da_nil)))
  dss_nil)
  (dss_one (ds_retF (de_ixO 0 (dv 1))))), ok⟩
abbrev s_claim_head : Stmt := top 18
theorem sc_claim_head : FnScope ["words", "at", "head", "count", "place"] ["words", "at"] (defScope s_claim_head) := ⟨rfl, rfl, rfl, by decide +kernel, rfl, by decide +kernel, by decide +kernel⟩

theorem fn_claim_head {f : Addr} {fd : FuncData} (F : Fun K "claim_head" "claim_head" s_claim_head f fd) (T : Txt P w K mg base) (c_first_word : Cal P w K mg base 3 "first_word" ["words", "at"] (φ_first_word T.eBadClaim.C)) (c_is_name : Cal P w K mg base 1 "is_name" ["text"] φ_is_name)
    (len : ∀ ds q x, (φ_claim_head T.eBadClaim.C) ds q x → ds.length = 2) (ok : ∀ ds q x, (φ_claim_head T.eBadClaim.C) ds q x → w_claim_head T.eBadClaim.C { nx := fun _ => q (.fz .non), rt := fun s _ => q s } (fun c fs _ => x c fs) (start 5 ds)) :
    FnOk P w K mg base (L2.CX P w) 4 f fd ["words", "at"] (spF K (φ_claim_head T.eBadClaim.C)) := by
  refine def_ok (k := 3) F sc_claim_head len fun cdv A outer s H E hr tk => ⟨w_claim_head T.eBadClaim.C,
  (dss_cons (ds_set 2 sc_claim_head.nd (de_tup (da_cons (de_fn c_first_word tk (hr.mono (by decide)) (da_cons (dv 0) (da_cons (dv 1) da_nil))) da_nil)))
  (dss_cons (ds_set 3 sc_claim_head.nd (de_if (dt_in (de_ixO 2 de_int) (de_gv T.NAMED)) de_int de_int))
  (dss_cons (ds_for (passes_of rfl) rfl (di_r2 T.range (de_add (dv 1) de_int) (de_add (de_add (dv 1) de_int) (dv 3))) (dg_name 4 sc_claim_head.nd)
  (dss_cons (ds_if (dt_w (dw_or (dt_ge (dv 4) (de_lenO 0 T.len)) (dw_one_or (dt_not (dt_val (de_fn c_is_name tk (hr.mono (by decide)) (da_cons (de_ixO 0 (dv 4)) da_nil)))))))
  (dss_one (ds_raise T.eBadClaim rfl tk (hr.mono (by decide)) (da_cons (de_add (dv 4) de_int) da_nil)))
  dss_nil)
  (dss_one (ds_set 2 sc_claim_head.nd (de_add (dv 2) (de_tup (da_cons (de_ixO 0 (dv 4)) da_nil)))))))
  (dss_one (ds_retF (de_tup (da_cons (dv 2) (da_cons (de_add (de_add (dv 1) de_int) (dv 3)) da_nil)))))))), ok⟩
abbrev s_fold_up : Stmt := top 19
theorem sc_fold_up : FnScope ["waiting", "claim", "done", "inner", "head", "count"] ["waiting", "claim"] (defScope s_fold_up) := ⟨rfl, rfl, rfl, by decide +kernel, rfl, by decide +kernel, by decide +kernel⟩

theorem fn_fold_up {f : Addr} {fd : FuncData} (F : Fun K "fold_up" "fold_up" s_fold_up f fd) (T : Txt P w K mg base) 
    (len : ∀ ds0 ds q x, ψ_fold_up ds0 ds q x → ds.length + 1 = 2) (ok : ∀ ds0 ds q x, ψ_fold_up ds0 ds q x → w_fold_up { nx := fun _ => False, rt := fun s env => ∃ ds1, env[0]? = some (some (.ls false ds1)) ∧ q s.d ds1 } (fun c fs _ => x c fs) (startG 6 ds0 ds)) :
    FnOk P w K mg base (L2.CX P w) 1 f fd ["waiting", "claim"] (spG K ψ_fold_up) := by
  refine def_okG (k := 0) F sc_fold_up len fun cdv A outer s H E hr tk => ⟨w_fold_up,
  (dss_cons (ds_set 2 sc_fold_up.nd (dv 1))
  (dss_cons (ds_while (passes_of rfl) (dt_w (dw_and (dt_truO 0) (dw_one_and (dt_notN (dv 2) de_non))))
  (dss_cons (ds_pop 0 (dg_tup rfl (dgs_cons (dg_name 4 sc_fold_up.nd) (dgs_cons (dg_name 5 sc_fold_up.nd) (dgs_cons (dg_name 3 sc_fold_up.nd) dgs_nil)))))
  (dss_cons (ds_set 3 sc_fold_up.nd (de_add (dv 3) (de_tup (da_cons (dv 2) da_nil))))
  (dss_cons (ds_set 2 sc_fold_up.nd de_non)
  (dss_one (ds_if (dt_eq hr.units (de_lenO 3 T.len) (dv 5))
  (dss_one (ds_set 2 sc_fold_up.nd (de_add (dv 4) (dv 3))))
  (dss_one (ds_app 0 (de_tup (da_cons (dv 4) (da_cons (dv 5) (da_cons (dv 3) da_nil))))))))))))
  (dss_one (ds_retF (dv 2))))), ok⟩
abbrev s_parse_claim : Stmt := top 20
theorem sc_parse_claim : FnScope ["text", "words", "waiting", "done", "depth", "at", "head"] ["text"] (defScope s_parse_claim) := ⟨rfl, rfl, rfl, by decide +kernel, rfl, by decide +kernel, by decide +kernel⟩

theorem fn_parse_claim {f : Addr} {fd : FuncData} (F : Fun K "parse_claim" "parse_claim" s_parse_claim f fd) (T : Txt P w K mg base) (c_claim_head : Cal P w K mg base 4 "claim_head" ["words", "at"] (φ_claim_head T.eBadClaim.C)) (c_fold_up : CalG P w K mg base 1 "fold_up" ["waiting", "claim"] ψ_fold_up) (c_is_spaced : Cal P w K mg base 1 "is_spaced" ["line"] φ_is_spaced)
    (len : ∀ ds q x, (φ_parse_claim T.eBadClaim.C) ds q x → ds.length = 1) (ok : ∀ ds q x, (φ_parse_claim T.eBadClaim.C) ds q x → w_parse_claim T.eBadClaim.C { nx := fun _ => q (.fz .non), rt := fun s _ => q s } (fun c fs _ => x c fs) (start 7 ds)) :
    FnOk P w K mg base (L2.CX P w) 5 f fd ["text"] (spF K (φ_parse_claim T.eBadClaim.C)) := by
  refine def_ok (k := 4) F sc_parse_claim len fun cdv A outer s H E hr tk => ⟨w_parse_claim T.eBadClaim.C,
  (dss_cons (ds_if (dt_eq hr.units (dv 0) de_str)
  (dss_one (ds_raise T.eBadClaim rfl tk (hr.mono (by decide)) (da_cons de_int da_nil)))
  dss_nil)
  (dss_cons (ds_set 1 sc_parse_claim.nd (de_split (dv 0) de_str))
  (dss_cons (ds_if (dt_w (dw_or (dt_not (dt_val (de_fn c_is_spaced tk (hr.mono (by decide)) (da_cons (dv 0) da_nil)))) (dw_one_or (dt_gt (de_lenO 1 T.len) (de_gv T.MOST_WORDS)))))
  (dss_one (ds_raise T.eBadClaim rfl tk (hr.mono (by decide)) (da_cons de_int da_nil)))
  dss_nil)
  (dss_cons (ds_set 2 sc_parse_claim.nd (de_lst da_nil))
  (dss_cons (ds_set 3 sc_parse_claim.nd de_non)
  (dss_cons (ds_set 4 sc_parse_claim.nd de_int)
  (dss_cons (ds_set 5 sc_parse_claim.nd de_int)
  (dss_cons (ds_while (passes_of rfl) (dt_isN (dv 3) de_non)
  (dss_cons (ds_frz 1 (ds_asg (de_fn c_claim_head tk (hr.mono (by decide)) (da_cons (dv 1) (da_cons (dv 5) da_nil))) (dg_tup rfl (dgs_cons (dg_name 6 sc_parse_claim.nd) (dgs_cons (dg_name 5 sc_parse_claim.nd) dgs_nil)))))
  (dss_cons (ds_set 4 sc_parse_claim.nd (de_max2 rfl T.max (da_cons (dv 4) (da_cons (de_add (de_lenO 2 T.len) de_int) da_nil))))
  (dss_one (ds_if (dt_inD T.HOLDING (de_ixO 6 de_int))
  (dss_one (ds_app 2 (de_tup (da_cons (dv 6) (da_cons (de_ixD T.HOLDING (de_ixO 6 de_int)) (da_cons (de_tup da_nil) da_nil))))))
  (dss_one (ds_callG 2 3 c_fold_up tk (hr.mono (by decide)) sc_parse_claim.nd (da_cons (dv 6) da_nil))))))))
  (dss_cons (ds_if (dt_lt (dv 5) (de_lenO 1 T.len))
  (dss_one (ds_raise T.eBadClaim rfl tk (hr.mono (by decide)) (da_cons (de_add (dv 5) de_int) da_nil)))
  dss_nil)
  (dss_cons (ds_if (dt_gt (dv 4) (de_gv T.MOST_DEPTH))
  (dss_one (ds_raise T.eBadClaim rfl tk (hr.mono (by decide)) (da_cons de_int da_nil)))
  dss_nil)
  (dss_one (ds_retF (dv 3))))))))))))), ok⟩
abbrev s_format_claim : Stmt := top 21
theorem sc_format_claim : FnScope ["claim", "words", "waiting", "part"] ["claim"] (defScope s_format_claim) := ⟨rfl, rfl, rfl, by decide +kernel, rfl, by decide +kernel, by decide +kernel⟩

theorem fn_format_claim {f : Addr} {fd : FuncData} (F : Fun K "format_claim" "format_claim" s_format_claim f fd) (T : Txt P w K mg base) 
    (len : ∀ ds q x, φ_format_claim ds q x → ds.length = 1) (ok : ∀ ds q x, φ_format_claim ds q x → w_format_claim { nx := fun _ => q (.fz .non), rt := fun s _ => q s } (fun c fs _ => x c fs) (start 4 ds)) :
    FnOk P w K mg base (L2.CX P w) 1 f fd ["claim"] (spF K φ_format_claim) := by
  refine def_ok (k := 0) F sc_format_claim len fun cdv A outer s H E hr tk => ⟨w_format_claim,
  (dss_cons (ds_set 1 sc_format_claim.nd (de_lst da_nil))
  (dss_cons (ds_set 2 sc_format_claim.nd (de_lst (da_cons (dv 0) da_nil)))
  (dss_cons (ds_while (passes_of rfl) (dt_truO 2)
  (dss_cons (ds_pop 2 (dg_name 3 sc_format_claim.nd))
  (dss_one (ds_if (dt_val (de_isi T.isinstance T.str (by decide +kernel) (dv 3)))
  (dss_one (ds_app 1 (dv 3)))
  (dss_one (ds_ext 2 (de_rev (de_list T.list (da_cons (dv 3) da_nil)))))))))
  (dss_one (ds_frz 1 (ds_retF (de_join de_str (dv 1)))))))), ok⟩
abbrev s_law_cell : Stmt := top 23
theorem sc_law_cell : FnScope ["script", "k", "seed", "cell"] ["script", "k"] (defScope s_law_cell) := ⟨rfl, rfl, rfl, by decide +kernel, rfl, by decide +kernel, by decide +kernel⟩

theorem fn_law_cell {f : Addr} {fd : FuncData} (F : Fun K "_law_cell" "_law_cell" s_law_cell f fd) (T : Txt P w K mg base) 
    (len : ∀ ds q x, φ_law_cell ds q x → ds.length = 2) (ok : ∀ ds q x, φ_law_cell ds q x → w_law_cell { nx := fun _ => q (.fz .non), rt := fun s _ => q s } (fun c fs _ => x c fs) (start 4 ds)) :
    FnOk P w K mg base (L2.CX P w) 1 f fd ["script", "k"] (spF K φ_law_cell) := by
  refine def_ok (k := 0) F sc_law_cell len fun cdv A outer s H E hr tk => ⟨w_law_cell,
  (dss_cons (ds_if (dt_lt (dv 1) (de_lenO 0 T.len))
  (dss_one (ds_retF (de_mod (de_int1 T.int (da_cons (de_ixO 0 (dv 1)) da_nil)) (de_pow de_int de_int))))
  dss_nil)
  (dss_cons (ds_set 2 sc_law_cell.nd de_int)
  (dss_cons (ds_for (passes_of rfl) rfl (di_seq (de_slice (dv 0) do_no (do_so de_int))) (dg_name 3 sc_law_cell.nd)
  (dss_one (ds_set 2 sc_law_cell.nd (de_mod (de_int1 T.int (da_cons (de_add (de_mulA (dv 2) de_int) (de_mod (de_int1 T.int (da_cons (dv 3) da_nil)) de_int)) da_nil)) de_int))))
  (dss_one (ds_retF (de_mod (de_int1 T.int (da_cons (de_mulA (de_mulA (de_add (dv 2) de_int) (de_add (dv 1) de_int)) de_int) da_nil)) de_int)))))), ok⟩
abbrev s_law_digits : Stmt := top 24
theorem sc_law_digits : FnScope ["cell", "sizes", "row", "rest", "seed", "k", "size", "twice"] ["cell", "sizes"] (defScope s_law_digits) := ⟨rfl, rfl, rfl, by decide +kernel, rfl, by decide +kernel, by decide +kernel⟩

theorem fn_law_digits {f : Addr} {fd : FuncData} (F : Fun K "_law_digits" "_law_digits" s_law_digits f fd) (T : Txt P w K mg base) 
    (len : ∀ ds q x, φ_law_digits ds q x → ds.length = 2) (ok : ∀ ds q x, φ_law_digits ds q x → w_law_digits { nx := fun _ => q (.fz .non), rt := fun s _ => q s } (fun c fs _ => x c fs) (start 8 ds)) :
    FnOk P w K mg base (L2.CX P w) 1 f fd ["cell", "sizes"] (spF K φ_law_digits) := by
  refine def_ok (k := 0) F sc_law_digits len fun cdv A outer s H E hr tk => ⟨w_law_digits,
  (dss_cons (ds_set 2 sc_law_digits.nd (de_lst da_nil))
  (dss_cons (ds_set 3 sc_law_digits.nd (de_mod (de_int1 T.int (da_cons (dv 0) da_nil)) (de_pow de_int de_int)))
  (dss_cons (ds_if (dt_ge (dv 3) (de_pow de_int de_int))
  (dss_cons (ds_set 3 sc_law_digits.nd (de_sub (dv 3) (de_pow de_int de_int)))
  (dss_cons (ds_for (passes_of rfl) rfl (di_seq (dv 1)) (dg_name 6 sc_law_digits.nd)
  (dss_cons (ds_app 2 (de_mod (de_int1 T.int (da_cons (dv 3) da_nil)) (dv 6)))
  (dss_one (ds_set 3 sc_law_digits.nd (de_div (de_int1 T.int (da_cons (dv 3) da_nil)) (dv 6))))))
  (dss_one (ds_frz 2 (ds_retF (dv 2))))))
  dss_nil)
  (dss_cons (ds_set 4 sc_law_digits.nd (de_mod (de_int1 T.int (da_cons (dv 3) da_nil)) de_int))
  (dss_cons (ds_for (passes_of rfl) rfl (di_r1 T.range (de_lenO 1 T.len)) (dg_name 5 sc_law_digits.nd)
  (dss_cons (ds_set 4 sc_law_digits.nd (de_mod (de_int1 T.int (da_cons (de_add (de_add (de_mulA (dv 4) de_int) (de_mulA de_int (dv 5))) de_int) da_nil)) de_int))
  (dss_cons (ds_set 7 sc_law_digits.nd (de_mod (de_int1 T.int (da_cons (de_mulA (dv 4) (de_add (de_div (dv 4) de_int) de_int)) da_nil)) de_int))
  (dss_one (ds_app 2 (de_mod (de_div (dv 7) de_int) (de_ixO 1 (dv 5))))))))
  (dss_one (ds_frz 2 (ds_retF (dv 2))))))))), ok⟩
abbrev s_law_names : Stmt := top 25
theorem sc_law_names : FnScope ["digit", "count", "menu", "more", "pool", "place", "size", "k", "sign"] ["digit", "count"] (defScope s_law_names) := ⟨rfl, rfl, rfl, by decide +kernel, rfl, by decide +kernel, by decide +kernel⟩

theorem fn_law_names {f : Addr} {fd : FuncData} (F : Fun K "_law_names" "_law_names" s_law_names f fd) (T : Txt P w K mg base) 
    (len : ∀ ds q x, φ_law_names ds q x → ds.length = 2) (ok : ∀ ds q x, φ_law_names ds q x → w_law_names { nx := fun _ => q (.fz .non), rt := fun s _ => q s } (fun c fs _ => x c fs) (start 9 ds)) :
    FnOk P w K mg base (L2.CX P w) 1 f fd ["digit", "count"] (spF K φ_law_names) := by
  refine def_ok (k := 0) F sc_law_names len fun cdv A outer s H E hr tk => ⟨w_law_names,
  (dss_cons (ds_set 2 sc_law_names.nd (de_lst (da_cons de_str (da_cons de_str (da_cons de_str (da_cons de_str (da_cons de_str (da_cons de_str (da_cons de_str (da_cons de_str (da_cons de_str (da_cons de_str (da_cons de_str (da_cons de_str da_nil))))))))))))))
  (dss_cons (ds_set 3 sc_law_names.nd (de_lst (da_cons de_str (da_cons de_str (da_cons de_str (da_cons de_str (da_cons de_str (da_cons de_str (da_cons de_str (da_cons de_str (da_cons de_str (da_cons de_str (da_cons de_str (da_cons de_str da_nil))))))))))))))
  (dss_cons (ds_frz 3 (ds_frz 2 (ds_set 4 sc_law_names.nd (de_add (dv 2) (dv 3)))))
  (dss_cons (ds_if (dt_eq hr.units (de_mod (dv 0) de_int) de_int)
  (dss_cons (ds_set 5 sc_law_names.nd (de_int1 T.int (da_cons (de_div (dv 0) de_int) da_nil)))
  (dss_cons (ds_set 6 sc_law_names.nd (de_add (de_add (dv 5) de_int) (de_mod (de_int1 T.int (da_cons (de_div (dv 0) de_int) da_nil)) (de_sub de_int (dv 5)))))
  (dss_one (ds_set 4 sc_law_names.nd (de_lc [("sign", 8)] rfl sc_law_names.nd (di_str de_str) (by show blkC ["digit", "count", "menu", "more", "pool", "place", "size", "k", "sign"] (defScope s_law_names) _ _ = true; decide +kernel) (fun _ _ _ _ _ => (dg_name 8 sc_law_names.nd)) (fun _ _ _ _ _ => dts_nil) (fun _ _ _ _ _ => (de_add (de_add (de_slice de_str do_no (do_so (dv 5))) (dv 8)) (de_slice de_str (do_so (de_add (dv 5) de_int)) (do_so (dv 6))))))))))
  dss_nil)
  (dss_cons (ds_if (dt_eq hr.units (de_mod (dv 0) de_int) de_int)
  (dss_one (ds_set 4 sc_law_names.nd (de_lc [("k", 7)] rfl sc_law_names.nd (di_r1 T.range de_int) (by show blkC ["digit", "count", "menu", "more", "pool", "place", "size", "k", "sign"] (defScope s_law_names) _ _ = true; decide +kernel) (fun _ _ _ _ _ => (dg_name 7 sc_law_names.nd)) (fun _ _ _ _ _ => dts_nil) (fun _ _ _ _ _ => (de_add (de_ix de_str (de_div (dv 7) de_int)) (de_mulA de_str (de_mod (dv 7) de_int)))))))
  dss_nil)
  (dss_one (ds_retF (de_lc [("k", 7)] rfl sc_law_names.nd (di_r1 T.range (dv 1)) (by show blkC ["digit", "count", "menu", "more", "pool", "place", "size", "k", "sign"] (defScope s_law_names) _ _ = true; decide +kernel) (fun _ _ _ _ _ => (dg_name 7 sc_law_names.nd)) (fun _ _ _ _ _ => dts_nil) (fun _ _ _ _ _ => (de_ixO 4 (de_mod (de_int1 T.int (da_cons (de_add (dv 0) (de_mulA de_int (dv 7))) da_nil)) de_int))))))))))), ok⟩
abbrev s_law_atom : Stmt := top 26
theorem sc_law_atom : FnScope ["row", "at", "names", "kind", "one", "other"] ["row", "at", "names"] (defScope s_law_atom) := ⟨rfl, rfl, rfl, by decide +kernel, rfl, by decide +kernel, by decide +kernel⟩

theorem fn_law_atom {f : Addr} {fd : FuncData} (F : Fun K "_law_atom" "_law_atom" s_law_atom f fd) (T : Txt P w K mg base) 
    (len : ∀ ds q x, φ_law_atom ds q x → ds.length = 3) (ok : ∀ ds q x, φ_law_atom ds q x → w_law_atom { nx := fun _ => q (.fz .non), rt := fun s _ => q s } (fun c fs _ => x c fs) (start 6 ds)) :
    FnOk P w K mg base (L2.CX P w) 1 f fd ["row", "at", "names"] (spF K φ_law_atom) := by
  refine def_ok (k := 0) F sc_law_atom len fun cdv A outer s H E hr tk => ⟨w_law_atom,
  (dss_cons (ds_set 3 sc_law_atom.nd (de_ix (de_lst (da_cons de_str (da_cons de_str (da_cons de_str (da_cons de_str (da_cons de_str (da_cons de_str (da_cons de_str da_nil)))))))) (de_mod (de_int1 T.int (da_cons (de_ixO 0 (dv 1)) da_nil)) de_int)))
  (dss_cons (ds_set 4 sc_law_atom.nd (de_ixO 2 (de_mod (de_int1 T.int (da_cons (de_ixO 0 (de_add (dv 1) de_int)) da_nil)) (de_lenO 2 T.len))))
  (dss_cons (ds_set 5 sc_law_atom.nd (de_ixO 2 (de_mod (de_int1 T.int (da_cons (de_ixO 0 (de_add (dv 1) de_int)) da_nil)) (de_lenO 2 T.len))))
  (dss_one (ds_retF (de_lst (da_cons (de_tup (da_cons (dv 3) (da_cons (dv 4) (da_cons (dv 5) da_nil)))) (da_cons (de_lst (da_cons (dv 3) (da_cons (dv 4) (da_cons (dv 5) da_nil)))) da_nil)))))))), ok⟩
abbrev s_law_claim : Stmt := top 27
theorem sc_law_claim : FnScope ["row", "names", "many", "most", "deep", "found", "k", "at", "word", "more", "fresh", "tail", "head"] ["row", "names", "many", "most", "deep"] (defScope s_law_claim) := ⟨rfl, rfl, rfl, by decide +kernel, rfl, by decide +kernel, by decide +kernel⟩

theorem fn_law_claim {f : Addr} {fd : FuncData} (F : Fun K "_law_claim" "_law_claim" s_law_claim f fd) (T : Txt P w K mg base) (c_law_atom : Cal P w K mg base 1 "_law_atom" ["row", "at", "names"] φ_law_atom)
    (len : ∀ ds q x, φ_law_claim ds q x → ds.length = 5) (ok : ∀ ds q x, φ_law_claim ds q x → w_law_claim { nx := fun _ => q (.fz .non), rt := fun s _ => q s } (fun c fs _ => x c fs) (start 13 ds)) :
    FnOk P w K mg base (L2.CX P w) 2 f fd ["row", "names", "many", "most", "deep"] (spF K φ_law_claim) := by
  refine def_ok (k := 1) F sc_law_claim len fun cdv A outer s H E hr tk => ⟨w_law_claim,
  (dss_cons (ds_set 5 sc_law_claim.nd (de_add (de_fn c_law_atom tk (hr.mono (by decide)) (da_cons (dv 0) (da_cons de_int (da_cons (dv 1) da_nil)))) (de_lst (da_cons de_int da_nil))))
  (dss_cons (ds_for (passes_of rfl) rfl (di_r1 T.range (dv 2)) (dg_name 6 sc_law_claim.nd)
  (dss_cons (ds_set 7 sc_law_claim.nd (de_add de_int (de_mulA de_int (dv 6))))
  (dss_cons (ds_set 8 sc_law_claim.nd (de_ix (de_lst (da_cons de_str (da_cons de_str (da_cons de_str (da_cons de_str (da_cons de_str (da_cons de_str da_nil))))))) (de_mod (de_int1 T.int (da_cons (de_ixO 0 (dv 7)) da_nil)) de_int)))
  (dss_cons (ds_set 9 sc_law_claim.nd (de_fn c_law_atom tk (hr.mono (by decide)) (da_cons (dv 0) (da_cons (de_add (dv 7) de_int) (da_cons (dv 1) da_nil)))))
  (dss_cons (ds_if (dt_eq hr.units (dv 8) de_str)
  (dss_one (ds_set 10 sc_law_claim.nd (de_lst (da_cons (de_tup (da_cons de_str (da_cons (de_ixO 5 de_int) da_nil))) (da_cons (de_add (de_lst (da_cons de_str da_nil)) (de_ixO 5 de_int)) (da_cons (de_add (de_ixO 5 de_int) de_int) da_nil))))))
  (dss_one (ds_if (dt_in (dv 8) (de_lst (da_cons de_str (da_cons de_str da_nil))))
  (dss_one (ds_if (dt_eq hr.units (de_mod (de_ixO 0 (de_add (dv 7) de_int)) de_int) de_int)
  (dss_one (ds_set 10 sc_law_claim.nd (de_lst (da_cons (de_tup (da_cons (dv 8) (da_cons (de_ixO 5 de_int) (da_cons (de_ixO 9 de_int) da_nil)))) (da_cons (de_add (de_add (de_lst (da_cons (dv 8) da_nil)) (de_ixO 5 de_int)) (de_ixO 9 de_int)) (da_cons (de_add (de_ixO 5 de_int) de_int) da_nil))))))
  (dss_one (ds_set 10 sc_law_claim.nd (de_lst (da_cons (de_tup (da_cons (dv 8) (da_cons (de_ixO 9 de_int) (da_cons (de_ixO 5 de_int) da_nil)))) (da_cons (de_add (de_add (de_lst (da_cons (dv 8) da_nil)) (de_ixO 9 de_int)) (de_ixO 5 de_int)) (da_cons (de_add (de_ixO 5 de_int) de_int) da_nil))))))))
  (dss_cons (ds_set 11 sc_law_claim.nd (de_ixO 1 (de_mod (de_int1 T.int (da_cons (de_ixO 0 (de_add (dv 7) de_int)) da_nil)) (de_lenO 1 T.len))))
  (dss_cons (ds_set 12 sc_law_claim.nd (de_ixO 1 (de_mod (de_int1 T.int (da_cons (de_ixO 0 (de_add (dv 7) de_int)) da_nil)) (de_lenO 1 T.len))))
  (dss_one (ds_set 10 sc_law_claim.nd (de_lst (da_cons (de_tup (da_cons (dv 8) (da_cons (dv 11) (da_cons (dv 12) (da_cons (de_ixO 5 de_int) da_nil))))) (da_cons (de_add (de_lst (da_cons (dv 8) (da_cons (dv 11) (da_cons (dv 12) da_nil)))) (de_ixO 5 de_int)) (da_cons (de_add (de_ixO 5 de_int) de_int) da_nil)))))))))))
  (dss_one (ds_if (dt_w (dw_and (dt_le (de_len T.len (da_cons (de_ixO 10 de_int) da_nil)) (dv 3)) (dw_one_and (dt_le (de_ixO 10 de_int) (dv 4)))))
  (dss_one (ds_frz 10 (ds_set 5 sc_law_claim.nd (dv 10))))
  dss_nil)))))))
  (dss_one (ds_frz 5 (ds_retF (dv 5)))))), ok⟩
abbrev s_law_fault : Stmt := top 28
theorem sc_law_fault : FnScope ["text", "e"] ["text"] (defScope s_law_fault) := ⟨rfl, rfl, rfl, by decide +kernel, rfl, by decide +kernel, by decide +kernel⟩

theorem fn_law_fault {f : Addr} {fd : FuncData} (F : Fun K "_law_fault" "_law_fault" s_law_fault f fd) (T : Txt P w K mg base) (c_parse_claim : Cal P w K mg base 5 "parse_claim" ["text"] (φ_parse_claim T.eBadClaim.C))
    (len : ∀ ds q x, (φ_law_fault T.eBadClaim.C) ds q x → ds.length = 1) (ok : ∀ ds q x, (φ_law_fault T.eBadClaim.C) ds q x → w_law_fault K T.eBadClaim.C T.ACareError T.ABadLine T.ABadNode { nx := fun _ => q (.fz .non), rt := fun s _ => q s } (fun c fs _ => x c fs) (start 2 ds)) :
    FnOk P w K mg base (L2.CX P w) 6 f fd ["text"] (spF K (φ_law_fault T.eBadClaim.C)) := by
  refine def_ok (k := 5) F sc_law_fault len fun cdv A outer s H E hr tk => ⟨w_law_fault K T.eBadClaim.C T.ACareError T.ABadLine T.ABadNode,
  (dss_cons (ds_try rfl rfl sc_law_fault.nd tk (fun V pn xe tk pp => (dss_one (ds_expr (de_fn c_parse_claim tk (hr.mono (by decide)) (da_cons (dv 0) da_nil))))) (dh_named 1 ⟨rfl, by decide, .inl T.gBadClaim⟩ (fun a oe c d pn hz hf => (dss_cons (ds_if (dt_w (dw_or (dt_not (dt_val (de_xi 1 T.eBadClaim_x hz hf T.isinstance T.gCareError))) (dw_one_or (dt_val (de_xi2 1 T.eBadClaim_x hz hf T.isinstance T.gBadLine T.gBadNode)))))
  (dss_one (ds_retF (de_tup (da_cons de_str (da_cons de_int da_nil)))))
  dss_nil)
  (dss_one (ds_retF (de_xf 1 T.eBadClaim.xf (T.eBadClaim.no _ (by decide)) hz hf))))) (dh_plain ⟨rfl, by decide, .inl T.gCareError⟩ (fun a oe c d pn hz hf => (dss_one (ds_retF (de_tup (da_cons de_str (da_cons de_int da_nil)))))) dh_nil)))
  (dss_one (ds_retF (de_tup (da_cons de_str (da_cons de_int da_nil)))))), ok⟩
abbrev s_law_places : Stmt := top 29
theorem sc_law_places : FnScope ["words", "heads", "at", "turn"] ["words"] (defScope s_law_places) := ⟨rfl, rfl, rfl, by decide +kernel, rfl, by decide +kernel, by decide +kernel⟩

theorem fn_law_places {f : Addr} {fd : FuncData} (F : Fun K "_law_places" "_law_places" s_law_places f fd) (T : Txt P w K mg base) 
    (len : ∀ ds q x, φ_law_places ds q x → ds.length = 1) (ok : ∀ ds q x, φ_law_places ds q x → w_law_places { nx := fun _ => q (.fz .non), rt := fun s _ => q s } (fun c fs _ => x c fs) (start 4 ds)) :
    FnOk P w K mg base (L2.CX P w) 1 f fd ["words"] (spF K φ_law_places) := by
  refine def_ok (k := 0) F sc_law_places len fun cdv A outer s H E hr tk => ⟨w_law_places,
  (dss_cons (ds_set 1 sc_law_places.nd (de_lst da_nil))
  (dss_cons (ds_set 2 sc_law_places.nd de_int)
  (dss_cons (ds_for (passes_of rfl) rfl (di_r1 T.range de_int) (dg_name 3 sc_law_places.nd)
  (dss_cons (ds_if (dt_ge (dv 2) (de_lenO 0 T.len))
  (dss_one ds_break)
  dss_nil)
  (dss_cons (ds_app 1 (dv 2))
  (dss_one (ds_if (dt_in (de_ixO 0 (dv 2)) (de_lst (da_cons de_str (da_cons de_str (da_cons de_str da_nil)))))
  (dss_one (ds_set 2 sc_law_places.nd (de_add (dv 2) de_int)))
  (dss_one (ds_set 2 sc_law_places.nd (de_add (dv 2) de_int))))))))
  (dss_one (ds_frz 1 (ds_retF (dv 1))))))), ok⟩
abbrev s_law_listed : Stmt := top 30
theorem sc_law_listed : FnScope ["claim", "rows", "part"] ["claim"] (defScope s_law_listed) := ⟨rfl, rfl, rfl, by decide +kernel, rfl, by decide +kernel, by decide +kernel⟩

theorem fn_law_listed {f : Addr} {fd : FuncData} {k : Nat} (F : Fun K "_law_listed" "_law_listed" s_law_listed f fd) (T : Txt P w K mg base) (n : Nat) (c_law_listed : Cal P w K mg base k "_law_listed" ["claim"] (φ_law_listed n))
    (len : ∀ ds q x, (φ_law_listed (n + 1)) ds q x → ds.length = 1) (ok : ∀ ds q x, (φ_law_listed (n + 1)) ds q x → w_law_listed n { nx := fun _ => q (.fz .non), rt := fun s _ => q s } (fun c fs _ => x c fs) (start 3 ds)) :
    FnOk P w K mg base (L2.CX P w) (k + 1) f fd ["claim"] (spF K (φ_law_listed (n + 1))) := by
  refine def_ok (k := k) F sc_law_listed len fun cdv A outer s H E hr tk => ⟨w_law_listed n,
  (dss_cons (ds_set 1 sc_law_listed.nd (de_lst da_nil))
  (dss_cons (ds_for (passes_of rfl) rfl (di_seq (dv 0)) (dg_name 2 sc_law_listed.nd)
  (dss_one (ds_if (dt_val (de_isi T.isinstance T.tuple (by decide +kernel) (dv 2)))
  (dss_one (ds_app 1 (de_fn c_law_listed tk (hr) (da_cons (dv 2) da_nil))))
  (dss_one (ds_app 1 (dv 2))))))
  (dss_one (ds_frz 1 (ds_retF (dv 1)))))), ok⟩
abbrev s_law_two : Stmt := top 31
theorem sc_law_two : FnScope ["left", "row", "names", "many", "word", "right"] ["left", "row", "names", "many", "word"] (defScope s_law_two) := ⟨rfl, rfl, rfl, by decide +kernel, rfl, by decide +kernel, by decide +kernel⟩

theorem fn_law_two {f : Addr} {fd : FuncData} (F : Fun K "_law_two" "_law_two" s_law_two f fd) (T : Txt P w K mg base) (c_law_claim : Cal P w K mg base 2 "_law_claim" ["row", "names", "many", "most", "deep"] φ_law_claim)
    (len : ∀ ds q x, φ_law_two ds q x → ds.length = 5) (ok : ∀ ds q x, φ_law_two ds q x → w_law_two { nx := fun _ => q (.fz .non), rt := fun s _ => q s } (fun c fs _ => x c fs) (start 6 ds)) :
    FnOk P w K mg base (L2.CX P w) 3 f fd ["left", "row", "names", "many", "word"] (spF K φ_law_two) := by
  refine def_ok (k := 2) F sc_law_two len fun cdv A outer s H E hr tk => ⟨w_law_two,
  (dss_cons (ds_if (dt_w (dw_or (dt_eq hr.units (dv 4) de_str) (dw_or (dt_gt (de_ixO 0 de_int) de_int) (dw_one_or (dt_gt (de_len T.len (da_cons (de_ixO 0 de_int) da_nil)) de_int)))))
  (dss_one (ds_retF (dv 0)))
  dss_nil)
  (dss_cons (ds_set 5 sc_law_two.nd (de_fn c_law_claim tk (hr.mono (by decide)) (da_cons (dv 1) (da_cons (dv 2) (da_cons (dv 3) (da_cons (de_sub de_int (de_len T.len (da_cons (de_ixO 0 de_int) da_nil))) (da_cons de_int da_nil)))))))
  (dss_one (ds_retF (de_lst (da_cons (de_tup (da_cons (dv 4) (da_cons (de_ixO 0 de_int) (da_cons (de_ixO 5 de_int) da_nil)))) (da_cons (de_add (de_add (de_lst (da_cons (dv 4) da_nil)) (de_ixO 0 de_int)) (de_ixO 5 de_int)) (da_cons (de_add de_int (de_max2 rfl T.max (da_cons (de_ixO 0 de_int) (da_cons (de_ixO 5 de_int) da_nil)))) da_nil)))))))), ok⟩
abbrev s_law_deep : Stmt := top 32
theorem sc_law_deep : FnScope ["words", "many", "k"] ["words", "many"] (defScope s_law_deep) := ⟨rfl, rfl, rfl, by decide +kernel, rfl, by decide +kernel, by decide +kernel⟩

theorem fn_law_deep {f : Addr} {fd : FuncData} (F : Fun K "_law_deep" "_law_deep" s_law_deep f fd) (T : Txt P w K mg base) 
    (len : ∀ ds q x, φ_law_deep ds q x → ds.length = 2) (ok : ∀ ds q x, φ_law_deep ds q x → w_law_deep { nx := fun _ => q (.fz .non), rt := fun s _ => q s } (fun c fs _ => x c fs) (start 3 ds)) :
    FnOk P w K mg base (L2.CX P w) 1 f fd ["words", "many"] (spF K φ_law_deep) := by
  refine def_ok (k := 0) F sc_law_deep len fun cdv A outer s H E hr tk => ⟨w_law_deep,
  (dss_one (ds_retF (de_add (de_lc [("k", 2)] rfl sc_law_deep.nd (di_r1 T.range (dv 1)) (by show blkC ["words", "many", "k"] (defScope s_law_deep) _ _ = true; decide +kernel) (fun _ _ _ _ _ => (dg_name 2 sc_law_deep.nd)) (fun _ _ _ _ _ => dts_nil) (fun _ _ _ _ _ => de_str)) (dv 0)))), ok⟩
abbrev s_law_is_tuples : Stmt := top 33
theorem sc_law_is_tuples : FnScope ["claim", "todo", "turn", "part", "each"] ["claim"] (defScope s_law_is_tuples) := ⟨rfl, rfl, rfl, by decide +kernel, rfl, by decide +kernel, by decide +kernel⟩

theorem fn_law_is_tuples {f : Addr} {fd : FuncData} (F : Fun K "_law_is_tuples" "_law_is_tuples" s_law_is_tuples f fd) (T : Txt P w K mg base) 
    (len : ∀ ds q x, φ_law_is_tuples ds q x → ds.length = 1) (ok : ∀ ds q x, φ_law_is_tuples ds q x → w_law_is_tuples { nx := fun _ => q (.fz .non), rt := fun s _ => q s } (fun c fs _ => x c fs) (start 5 ds)) :
    FnOk P w K mg base (L2.CX P w) 1 f fd ["claim"] (spF K φ_law_is_tuples) := by
  refine def_ok (k := 0) F sc_law_is_tuples len fun cdv A outer s H E hr tk => ⟨w_law_is_tuples,
  (dss_cons (ds_set 1 sc_law_is_tuples.nd (de_lst (da_cons (dv 0) da_nil)))
  (dss_cons (ds_for (passes_of rfl) rfl (di_r1 T.range de_int) (dg_name 2 sc_law_is_tuples.nd)
  (dss_cons (ds_if (dt_eq hr.units (de_lenO 1 T.len) de_int)
  (dss_one (ds_retF de_bl))
  dss_nil)
  (dss_cons (ds_pop 1 (dg_name 3 sc_law_is_tuples.nd))
  (dss_one (ds_if (dt_val (de_isi T.isinstance T.tuple (by decide +kernel) (dv 3)))
  (dss_one (ds_frz 1 (ds_set 1 sc_law_is_tuples.nd (de_add (dv 1) (de_lc [("each", 4)] rfl sc_law_is_tuples.nd (di_seq (dv 3)) (by show blkC ["claim", "todo", "turn", "part", "each"] (defScope s_law_is_tuples) _ _ = true; decide +kernel) (fun _ _ _ _ _ => (dg_name 4 sc_law_is_tuples.nd)) (fun _ _ _ _ _ => dts_nil) (fun _ _ _ _ _ => (dv 4)))))))
  (dss_one (ds_if (dt_not (dt_val (de_isi T.isinstance T.str (by decide +kernel) (dv 3))))
  (dss_one (ds_retF de_bl))
  dss_nil)))))))
  (dss_one (ds_retF de_bl)))), ok⟩
abbrev s_law : Stmt := top 34
theorem sc_law : FnScope ["script", "row", "draw", "more", "names", "drawn", "words", "text", "told", "heads", "at", "bad", "spots", "spot", "wrong", "cut", "short", "deep", "long", "whole", "k"] ["script"] (defScope s_law) := ⟨rfl, rfl, rfl, by decide +kernel, rfl, by decide +kernel, by decide +kernel⟩

theorem fn_law {f : Addr} {fd : FuncData} (F : Fun K "law" "law" s_law f fd) (T : Txt P w K mg base) (c_law_cell : Cal P w K mg base 1 "_law_cell" ["script", "k"] φ_law_cell) (c_law_claim : Cal P w K mg base 2 "_law_claim" ["row", "names", "many", "most", "deep"] φ_law_claim) (c_law_deep : Cal P w K mg base 1 "_law_deep" ["words", "many"] φ_law_deep) (c_law_digits : Cal P w K mg base 1 "_law_digits" ["cell", "sizes"] φ_law_digits) (c_law_fault : Cal P w K mg base 6 "_law_fault" ["text"] (φ_law_fault T.eBadClaim.C)) (c_law_is_tuples : Cal P w K mg base 1 "_law_is_tuples" ["claim"] φ_law_is_tuples) (c_law_listed : Cal P w K mg base 14 "_law_listed" ["claim"] (φ_law_listed 12)) (c_law_names : Cal P w K mg base 1 "_law_names" ["digit", "count"] φ_law_names) (c_law_places : Cal P w K mg base 1 "_law_places" ["words"] φ_law_places) (c_law_two : Cal P w K mg base 3 "_law_two" ["left", "row", "names", "many", "word"] φ_law_two) (c_format_claim : Cal P w K mg base 1 "format_claim" ["claim"] φ_format_claim) (c_parse_claim : Cal P w K mg base 5 "parse_claim" ["text"] (φ_parse_claim T.eBadClaim.C))
    (len : ∀ ds q x, φ_law ds q x → ds.length = 1) (ok : ∀ ds q x, φ_law ds q x → w_law T.eBadClaim.C { nx := fun _ => q (.fz .non), rt := fun s _ => q s } (fun c fs _ => x c fs) (start 21 ds)) :
    FnOk P w K mg base (L2.CX P w) 15 f fd ["script"] (spF K φ_law) := by
  refine def_ok (k := 14) F sc_law len fun cdv A outer s H E hr tk => ⟨w_law T.eBadClaim.C,
  (dss_cons (ds_set 1 sc_law.nd (de_fn c_law_digits tk (hr.mono (by decide)) (da_cons (de_fn c_law_cell tk (hr.mono (by decide)) (da_cons (dv 0) (da_cons de_int da_nil))) (da_cons (de_lst (da_cons de_int (da_cons de_int (da_cons de_int (da_cons de_int (da_cons de_int (da_cons de_int (da_cons de_int (da_cons de_int (da_cons de_int da_nil)))))))))) da_nil))))
  (dss_cons (ds_set 2 sc_law.nd (de_fn c_law_digits tk (hr.mono (by decide)) (da_cons (de_fn c_law_cell tk (hr.mono (by decide)) (da_cons (dv 0) (da_cons de_int da_nil))) (da_cons (de_add (de_lst (da_cons de_int (da_cons de_int (da_cons de_int da_nil)))) (de_mulA (de_lst (da_cons de_int (da_cons de_int (da_cons de_int (da_cons de_int da_nil))))) de_int)) da_nil))))
  (dss_cons (ds_set 3 sc_law.nd (de_fn c_law_digits tk (hr.mono (by decide)) (da_cons (de_fn c_law_cell tk (hr.mono (by decide)) (da_cons (dv 0) (da_cons de_int da_nil))) (da_cons (de_add (de_lst (da_cons de_int (da_cons de_int (da_cons de_int da_nil)))) (de_mulA (de_lst (da_cons de_int (da_cons de_int (da_cons de_int (da_cons de_int da_nil))))) de_int)) da_nil))))
  (dss_cons (ds_set 4 sc_law.nd (de_add (de_fn c_law_names tk (hr.mono (by decide)) (da_cons (de_ixO 1 de_int) (da_cons de_int da_nil))) (de_lst (da_cons de_str (da_cons de_str (da_cons de_str (da_cons de_str da_nil)))))))
  (dss_cons (ds_frz 4 (ds_set 5 sc_law.nd (de_fn c_law_two tk (hr.mono (by decide)) (da_cons (de_fn c_law_claim tk (hr.mono (by decide)) (da_cons (dv 2) (da_cons (dv 4) (da_cons (de_ixO 1 de_int) (da_cons de_int (da_cons de_int da_nil)))))) (da_cons (dv 3) (da_cons (dv 4) (da_cons (de_ixO 1 de_int) (da_cons (de_ix (de_lst (da_cons de_str (da_cons de_str (da_cons de_str da_nil)))) (de_ixO 1 de_int)) da_nil))))))))
  (dss_cons (ds_set 6 sc_law.nd (de_ixO 5 de_int))
  (dss_cons (ds_set 7 sc_law.nd (de_join de_str (dv 6)))
  (dss_cons (ds_set 8 sc_law.nd (de_fn c_parse_claim tk (hr.mono (by decide)) (da_cons (dv 7) da_nil)))
  (dss_cons (ds_if (dt_w (dw_or (dt_ne hr.units (dv 8) (de_ixO 5 de_int)) (dw_or (dt_not (dt_val (de_fn c_law_is_tuples tk (hr.mono (by decide)) (da_cons (dv 8) da_nil)))) (dw_one_or (dt_ne hr.units (de_fn c_format_claim tk (hr.mono (by decide)) (da_cons (de_ixO 5 de_int) da_nil)) (dv 7))))))
  (dss_one (ds_retF de_bl))
  dss_nil)
  (dss_cons (ds_if (dt_w (dw_or (dt_ne hr.units (de_fn c_format_claim tk (hr.mono (by decide)) (da_cons (dv 8) da_nil)) (dv 7)) (dw_one_or (dt_ne hr.units (de_fn c_format_claim tk (hr.mono (by decide)) (da_cons (de_fn c_law_listed tk (hr.mono (by decide)) (da_cons (de_ixO 5 de_int) da_nil)) da_nil)) (dv 7)))))
  (dss_one (ds_retF de_bl))
  dss_nil)
  (dss_cons (ds_set 9 sc_law.nd (de_fn c_law_places tk (hr.mono (by decide)) (da_cons (dv 6) da_nil)))
  (dss_cons (ds_set 10 sc_law.nd (de_ixO 9 (de_mod (de_int1 T.int (da_cons (de_ixO 1 de_int) da_nil)) (de_lenO 9 T.len))))
  (dss_cons (ds_set 11 sc_law.nd (de_ix (de_lst (da_cons de_str (da_cons de_str (da_cons de_str (da_cons de_str (da_cons de_str (da_cons de_str (da_cons de_str (da_cons de_str da_nil))))))))) (de_ixO 1 de_int)))
  (dss_cons (ds_if (dt_ne hr.units (de_fn c_law_fault tk (hr.mono (by decide)) (da_cons (de_join de_str (de_add (de_add (de_slice (dv 6) do_no (do_so (dv 10))) (de_lst (da_cons (dv 11) da_nil))) (de_slice (dv 6) (do_so (de_add (dv 10) de_int)) do_no))) da_nil)) (de_add (dv 10) de_int))
  (dss_one (ds_retF de_bl))
  dss_nil)
  (dss_cons (ds_setLc 12 [("k", 20)] rfl sc_law.nd (di_r1 T.range (de_lenO 6 T.len)) (by show blkC ["script", "row", "draw", "more", "names", "drawn", "words", "text", "told", "heads", "at", "bad", "spots", "spot", "wrong", "cut", "short", "deep", "long", "whole", "k"] (defScope s_law) _ _ = true; decide +kernel) (fun _ _ _ _ _ => (dg_name 20 sc_law.nd)) (fun _ _ _ _ _ => (dts_one (dt_notinO 9 (dv 20)))) (fun _ _ _ _ _ => (dv 20)) (sw_true rfl rfl rfl (by decide +kernel)))
  (dss_cons (ds_set 13 sc_law.nd (de_ixO 12 (de_mod (de_int1 T.int (da_cons (de_ixO 1 de_int) da_nil)) (de_lenO 12 T.len))))
  (dss_cons (ds_set 14 sc_law.nd (de_ix (de_lst (da_cons de_str (da_cons de_str (da_cons de_str (da_cons de_str (da_cons de_str (da_cons de_str (da_cons de_str (da_cons de_str da_nil))))))))) (de_ixO 1 de_int)))
  (dss_cons (ds_if (dt_ne hr.units (de_fn c_law_fault tk (hr.mono (by decide)) (da_cons (de_join de_str (de_add (de_add (de_slice (dv 6) do_no (do_so (dv 13))) (de_lst (da_cons (dv 14) da_nil))) (de_slice (dv 6) (do_so (de_add (dv 13) de_int)) do_no))) da_nil)) (de_add (dv 13) de_int))
  (dss_one (ds_retF de_bl))
  dss_nil)
  (dss_cons (ds_set 15 sc_law.nd (de_mod (de_int1 T.int (da_cons (de_ixO 1 de_int) da_nil)) (de_lenO 6 T.len)))
  (dss_cons (ds_set 16 sc_law.nd (de_join de_str (de_slice (dv 6) do_no (do_so (dv 15)))))
  (dss_cons (ds_if (dt_ne hr.units (de_fn c_law_fault tk (hr.mono (by decide)) (da_cons (dv 16) da_nil)) (de_add (dv 15) de_int))
  (dss_one (ds_retF de_bl))
  dss_nil)
  (dss_cons (ds_if (dt_w (dw_and (dt_lt (de_lenO 6 T.len) de_int) (dw_one_and (dt_ne hr.units (de_fn c_law_fault tk (hr.mono (by decide)) (da_cons (de_add (de_add (dv 7) de_str) (de_ixO 6 de_int)) da_nil)) (de_add (de_lenO 6 T.len) de_int)))))
  (dss_one (ds_retF de_bl))
  dss_nil)
  (dss_ifR (dtr_or (dtr_ne hr.units (de_fn c_law_fault tk (hr.mono (by decide)) (da_cons (de_add (dv 7) de_str) da_nil))) (dwt_or (dtt_of (dt_ne hr.units (de_fn c_law_fault tk (hr.mono (by decide)) (da_cons (de_add de_str (dv 7)) da_nil)) de_int)) (dwt_or1 (dtt_ne hr.units (det_fn c_law_fault tk (hr.mono (by decide)) (dat_one (det_rep1 (dv 7)))) de_int))))
  (dss_one (ds_retF de_bl))
  dss_nil
  (dsst_if (dtt_w (dwt_or (dtt_of (dt_ne hr.units (de_fn c_law_fault tk (hr.mono (by decide)) (da_cons (de_add (dv 7) de_str) da_nil)) (de_lenO 6 T.len))) (dwt_or (dtt_ne hr.units (det_fn c_law_fault tk (hr.mono (by decide)) (dat_one (det_rep1 (dv 7)))) de_int) (dwt_or1 (dtt_of (dt_ne hr.units (de_fn c_law_fault tk (hr.mono (by decide)) (da_cons de_str da_nil)) de_int))))))
  (dss_one (ds_retF de_bl))
  dss_nil
  (dsst_of (dss_cons (ds_set 17 sc_law.nd (de_fn c_law_deep tk (hr.mono (by decide)) (da_cons (dv 6) (da_cons (de_sub de_int (de_ixO 5 de_int)) da_nil))))
  (dss_cons (ds_if (dt_le (de_lenO 17 T.len) de_int)
  (dss_cons (ds_set 19 sc_law.nd (de_fn c_parse_claim tk (hr.mono (by decide)) (da_cons (de_join de_str (dv 17)) da_nil)))
  (dss_cons (ds_if (dt_ne hr.units (de_fn c_format_claim tk (hr.mono (by decide)) (da_cons (dv 19) da_nil)) (de_join de_str (dv 17)))
  (dss_one (ds_retF de_bl))
  dss_nil)
  (dss_cons (ds_set 3 sc_law.nd (de_fn c_law_deep tk (hr.mono (by decide)) (da_cons (dv 17) (da_cons (de_add de_int (de_mod (de_ixO 1 de_int) de_int)) da_nil))))
  (dss_one (ds_if (dt_le (de_lenO 3 T.len) de_int)
  (dss_cons (ds_if (dt_w (dw_or (dt_ne hr.units (de_fn c_law_fault tk (hr.mono (by decide)) (da_cons (de_join de_str (dv 3)) da_nil)) de_int) (dw_one_or (dt_ne hr.units (de_fn c_law_fault tk (hr.mono (by decide)) (da_cons (de_join de_str (de_slice (dv 3) do_no (do_so (de_neg de_int)))) da_nil)) (de_lenO 3 T.len)))))
  (dss_one (ds_retF de_bl))
  dss_nil)
  (dss_one (ds_if (dt_w (dw_and (dt_lt (de_lenO 3 T.len) de_int) (dw_one_and (dt_ne hr.units (de_fn c_law_fault tk (hr.mono (by decide)) (da_cons (de_join de_str (de_add (dv 3) (de_lst (da_cons de_str da_nil)))) da_nil)) (de_add (de_lenO 3 T.len) de_int)))))
  (dss_one (ds_retF de_bl))
  dss_nil)))
  dss_nil)))))
  dss_nil)
  (dss_cons (ds_set 18 sc_law.nd (de_fn c_law_deep tk (hr.mono (by decide)) (da_cons (dv 6) (da_cons (de_sub de_int (de_lenO 6 T.len)) da_nil))))
  (dss_one (ds_retF (de_and (de_eq hr.units (de_fn c_law_fault tk (hr.mono (by decide)) (da_cons (de_join de_str (dv 18)) da_nil)) de_int) (de_and (de_eq hr.units (de_fn c_law_fault tk (hr.mono (by decide)) (da_cons (de_join de_str (de_add (de_slice (dv 18) do_no (do_so (de_neg de_int))) (de_lst (da_cons de_str da_nil)))) da_nil)) de_int) (de_one (de_eq hr.units (de_fn c_law_fault tk (hr.mono (by decide)) (da_cons de_str da_nil)) de_int)))))))))))))))))))))))))))))))))), ok⟩
end
end K90
set_option Elab.async false
set_option linter.all false
set_option maxRecDepth 100000
set_option maxHeartbeats 0
namespace K90
open PySem PySem.Spec PyProof.Rows L2 Pu
open StrLaws Builtin Builtin.Str

abbrev s_x_BadClaim : Stmt := inClass (top 4) 0
theorem sc_x_BadClaim : FnScope ["self", "word"] ["self", "word"] (defScope s_x_BadClaim) := ⟨rfl, rfl, rfl, by decide +kernel, rfl, by decide +kernel, by decide +kernel⟩
def fnl : List He.DefD := [defD "is_name" s_is_name, defD "is_spaced" s_is_spaced, defD "first_word" s_first_word, defD "claim_head" s_claim_head, defD "fold_up" s_fold_up, defD "parse_claim" s_parse_claim, defD "format_claim" s_format_claim, defD "_law_cell" s_law_cell, defD "_law_digits" s_law_digits, defD "_law_names" s_law_names, defD "_law_atom" s_law_atom, defD "_law_claim" s_law_claim, defD "_law_fault" s_law_fault, defD "_law_places" s_law_places, defD "_law_listed" s_law_listed, defD "_law_two" s_law_two, defD "_law_deep" s_law_deep, defD "_law_is_tuples" s_law_is_tuples, defD "law" s_law, defM "BadClaim" "__init__" "BadClaim.__init__" s_x_BadClaim]
def fal : List He.Fa := [.glo "is_name", .glo "is_spaced", .glo "first_word", .glo "claim_head", .glo "fold_up", .glo "parse_claim", .glo "format_claim", .glo "_law_cell", .glo "_law_digits", .glo "_law_names", .glo "_law_atom", .glo "_law_claim", .glo "_law_fault", .glo "_law_places", .glo "_law_listed", .glo "_law_two", .glo "_law_deep", .glo "_law_is_tuples", .glo "law", .glo "BadClaim", .glo "CareError", .glo "BadLine", .glo "BadNode", .free "len", .free "int", .free "max", .free "range", .free "isinstance", .free "list", .free "tuple", .free "str", .free "all"]
def tsl : List He.Tab := [(fun K => He.ga K "HOLDING", kvHOLDING.map (·.1))]
def exl : List (PySem.W.Frag → Bool) := [fun K => gvB K "LETTERS" (.str "abcdefghijklmnopqrstuvwxyz"), fun K => gvB K "SIGNS" (.str "abcdefghijklmnopqrstuvwxyz0123456789"), fun K => gvB K "NAMED" dNAMED, fun K => gvB K "MOST_WORDS" (.int 60), fun K => gvB K "MOST_DEPTH" (.int 12), fun K => gdB K "HOLDING" kvHOLDING, fun K => errB K "BadClaim" ["word"], fun K => decide (PySem.W.kitOne K (.ref (He.ga K "BadClaim")) (.ref (He.ga K "CareError")) = some true), fun K => decide (PySem.W.kitAny K (.ref (He.ga K "BadClaim")) [.ref (He.ga K "BadLine"), .ref (He.ga K "BadNode")] = some false)]
def exb (K : PySem.W.Frag) : Bool := exl.all fun f => f K
theorem ex_at {K : PySem.W.Frag} (h : exb K = true) (i : Nat) {f : PySem.W.Frag → Bool} (e : exl[i]? = some f := by rfl) : f K = true := List.all_eq_true.mp h f (List.mem_of_getElem? e)
abbrev R : PySem.W.OpenRow := PySem.W.OpenLaw.row PySem.Challenge.rw_caresfor_k90_claim_texts
abbrev hk : PySem.W.Hook := He.hookX 6 fal fnl tsl [] exb
def ob (s : PySem.W.SharedT) : He.AlX := He.obsX 6 fal fnl tsl [] exb (HandSHeadRun.getT s)
theorem ob_eq (s : PySem.W.SharedT) : ob s = hk.obs s.abs := He.obsX_eq (HandSHeadRun.getT_eq s)
def loose : List Str := ["__name__", "CareError", "BadNode", "BadLine", "BadClaim", "LETTERS", "SIGNS", "is_name", "KINDS", "is_spaced", "NAMED", "HOLDING", "MOST_WORDS", "MOST_DEPTH", "first_word", "claim_head", "fold_up", "parse_claim", "format_claim", "_law_cell", "_law_digits", "_law_names", "_law_atom", "_law_claim", "_law_fault", "_law_places", "_law_listed", "_law_two", "_law_deep", "_law_is_tuples"]
theorem run0 (w : World) : HandSHeadRun.RunEq R (PySem.W.view R.prog [34]) hk ob 3000 loose (w.withFollow "special-get-raises" false) := by
  intro os
  kernel_rfl
theorem run1 (w : World) : HandSHeadRun.RunEq R (PySem.W.view R.prog [34]) hk ob 3000 loose (w.withFollow "special-get-raises" true) := by
  intro os
  kernel_rfl
theorem run (w : World) : HandSHeadRun.RunEq R (PySem.W.view R.prog [34]) hk ob 3000 loose w := PySem.W.byRow2 "special-get-raises" (P := fun w => HandSHeadRun.RunEq R (PySem.W.view R.prog [34]) hk ob 3000 loose w) run0 run1 w
theorem len_is_name : ∀ ds q x, φ_is_name ds q x → ds.length = 1 := fun ds q x h => by obtain ⟨_, rfl, _⟩ := h; rfl
theorem len_is_spaced : ∀ ds q x, φ_is_spaced ds q x → ds.length = 1 := fun ds q x h => by obtain ⟨_, rfl, _⟩ := h; rfl
theorem len_first_word (C : Addr) : ∀ ds q x, φ_first_word C ds q x → ds.length = 2 := fun ds q x h => by obtain ⟨_, _, rfl, _⟩ := h; rfl
theorem len_claim_head (C : Addr) : ∀ ds q x, φ_claim_head C ds q x → ds.length = 2 := fun ds q x h => by obtain ⟨_, _, rfl, _⟩ := h; rfl
theorem len_parse_claim (C : Addr) : ∀ ds q x, φ_parse_claim C ds q x → ds.length = 1 := fun ds q x h => by obtain ⟨_, rfl, _⟩ := h; rfl
theorem len_format_claim : ∀ ds q x, φ_format_claim ds q x → ds.length = 1 := fun ds q x h => by obtain ⟨_, rfl, _⟩ := h; rfl
theorem len_law_cell : ∀ ds q x, φ_law_cell ds q x → ds.length = 2 := fun ds q x h => by obtain ⟨_, _, rfl, _⟩ := h; rfl
theorem len_law_digits : ∀ ds q x, φ_law_digits ds q x → ds.length = 2 := fun ds q x h => by obtain ⟨_, _, rfl, _⟩ := h; rfl
theorem len_law_names : ∀ ds q x, φ_law_names ds q x → ds.length = 2 := fun ds q x h => by obtain ⟨_, rfl, _⟩ := h; rfl
theorem len_law_atom : ∀ ds q x, φ_law_atom ds q x → ds.length = 3 := fun ds q x h => by obtain ⟨_, _, _, rfl, _⟩ := h; rfl
theorem len_law_claim : ∀ ds q x, φ_law_claim ds q x → ds.length = 5 := fun ds q x h => by obtain ⟨_, _, _, _, _, rfl, _⟩ := h; rfl
theorem len_law_fault (C : Addr) : ∀ ds q x, φ_law_fault C ds q x → ds.length = 1 := fun ds q x h => by obtain ⟨_, rfl, _⟩ := h; rfl
theorem len_law_places : ∀ ds q x, φ_law_places ds q x → ds.length = 1 := fun ds q x h => by obtain ⟨_, rfl, _⟩ := h; rfl
theorem len_law_listed (n : Nat) : ∀ ds q x, φ_law_listed n ds q x → ds.length = 1 := fun ds q x h => by obtain ⟨_, rfl, _⟩ := h; rfl
theorem len_law_two : ∀ ds q x, φ_law_two ds q x → ds.length = 5 := fun ds q x h => by obtain ⟨_, _, _, _, _, rfl, _⟩ := h; rfl
theorem len_law_deep : ∀ ds q x, φ_law_deep ds q x → ds.length = 2 := fun ds q x h => by obtain ⟨_, _, rfl, _⟩ := h; rfl
theorem len_law_is_tuples : ∀ ds q x, φ_law_is_tuples ds q x → ds.length = 1 := fun ds q x h => by obtain ⟨_, rfl, _⟩ := h; rfl
theorem len_law : ∀ ds q x, φ_law ds q x → ds.length = 1 := fun ds q x h => by obtain ⟨_, rfl, _⟩ := h; rfl
theorem jl_len : ∀ (ls : List (List Nat)) (l : List Nat), l ∈ ls → l.length ≤ (jl ls).length
  | [], l, h => by cases h
  | [x], l, h => by
    rw [List.mem_singleton] at h
    rw [h]
    exact Nat.le_refl _
  | x :: y :: r, l, h => by
    show l.length ≤ (x ++ 32 :: jl (y :: r)).length
    rw [List.length_append, List.length_cons]
    rcases List.mem_cons.mp h with z | z
    · rw [z]; omega
    · have := jl_len (y :: r) l z
      omega
theorem hsplit (s : Str) (hs : s.length ≤ 10000) : ∀ w ∈ Txt.split s " ", w.length ≤ 16777216 := fun w hw => by
  have h1 := StrLaws.join_split s " "
  have h2 : Txt.join " " (Txt.split s " ") = s := by
    show glued _ _ = _
    rw [glued_eq_join]; exact h1
  have h3 := cl_join (Txt.split s " ")
  rw [h2] at h3
  have h4 := jl_len ((Txt.split s " ").map cl) (cl w) (List.mem_map.mpr ⟨w, hw, rfl⟩)
  rw [← h3] at h4
  have e1 : w.length = (cl w).length := by simp [cl, Str.length]
  have e2 : s.length = (cl s).length := by simp [cl, Str.length]
  omega
theorem none0 {P : Program} {w : World} {K : PySem.W.Frag} {mg : Str → Option Value} {base : Heap} {k : Nat} {f : Addr} {fd : FuncData} {ps : List Str} : FnOk P w K mg base (L2.CX P w) k f fd ps (spF K (φ_law_listed 0)) := by
  have no : ∀ vs H Q E, ¬ spF K (φ_law_listed 0) vs H Q E := fun vs H Q E h => by
    obtain ⟨_, _, _, _, _, _, ⟨_, _, _, h, _⟩, _⟩ := h
    omega
  exact ⟨fun vs H Q E h => absurd h (no vs H Q E), fun A outer s H args us vs Q E _ _ _ _ h => absurd h (no vs H Q E)⟩
theorem facts {P : Program} {w : World} {K : PySem.W.Frag} {h : Heap} {mg : Str → Option Value} {fa : Addr} (X : K.In h) (G : h.Ns mainGlobals mg) (hfa : mg "law" = some (.ref fa)) (c : He.SaysX fal fnl tsl [] exb w h K) :
    ∃ fd : FuncData, (∀ (s : Shared) (v : Value), BindsTo s fd ⟨[v], []⟩ [("script", v)]) ∧ ∀ base : Heap, K.In base → base.Ns mainGlobals mg → FnOk P w K mg base (L2.CX P w) 15 fa fd ["script"] (spF K φ_law) := by
  have cd := c.t.d
  obtain ⟨d_is_name, D_is_name⟩ := cd.def_ 0 (d := defD "is_name" s_is_name) rfl
  have F_is_name : Fun K "is_name" "is_name" s_is_name (He.ga K "is_name") d_is_name := funD_fun (st := s_is_name) D_is_name
  clear D_is_name
  have g_is_name : mg "is_name" = some (.ref (He.ga K "is_name")) := He.glo_ok X G (cd.fact 0 (f := .glo "is_name") rfl)
  have b_is_name := F_is_name.binds (ps := ["text"]) fun _ _ _ _ _ _ us hl => match us, hl with | [_], _ => rfl
  obtain ⟨d_is_spaced, D_is_spaced⟩ := cd.def_ 1 (d := defD "is_spaced" s_is_spaced) rfl
  have F_is_spaced : Fun K "is_spaced" "is_spaced" s_is_spaced (He.ga K "is_spaced") d_is_spaced := funD_fun (st := s_is_spaced) D_is_spaced
  clear D_is_spaced
  have g_is_spaced : mg "is_spaced" = some (.ref (He.ga K "is_spaced")) := He.glo_ok X G (cd.fact 1 (f := .glo "is_spaced") rfl)
  have b_is_spaced := F_is_spaced.binds (ps := ["line"]) fun _ _ _ _ _ _ us hl => match us, hl with | [_], _ => rfl
  obtain ⟨d_first_word, D_first_word⟩ := cd.def_ 2 (d := defD "first_word" s_first_word) rfl
  have F_first_word : Fun K "first_word" "first_word" s_first_word (He.ga K "first_word") d_first_word := funD_fun (st := s_first_word) D_first_word
  clear D_first_word
  have g_first_word : mg "first_word" = some (.ref (He.ga K "first_word")) := He.glo_ok X G (cd.fact 2 (f := .glo "first_word") rfl)
  have b_first_word := F_first_word.binds (ps := ["words", "at"]) fun _ _ _ _ _ _ us hl => match us, hl with | [_, _], _ => rfl
  obtain ⟨d_claim_head, D_claim_head⟩ := cd.def_ 3 (d := defD "claim_head" s_claim_head) rfl
  have F_claim_head : Fun K "claim_head" "claim_head" s_claim_head (He.ga K "claim_head") d_claim_head := funD_fun (st := s_claim_head) D_claim_head
  clear D_claim_head
  have g_claim_head : mg "claim_head" = some (.ref (He.ga K "claim_head")) := He.glo_ok X G (cd.fact 3 (f := .glo "claim_head") rfl)
  have b_claim_head := F_claim_head.binds (ps := ["words", "at"]) fun _ _ _ _ _ _ us hl => match us, hl with | [_, _], _ => rfl
  obtain ⟨d_fold_up, D_fold_up⟩ := cd.def_ 4 (d := defD "fold_up" s_fold_up) rfl
  have F_fold_up : Fun K "fold_up" "fold_up" s_fold_up (He.ga K "fold_up") d_fold_up := funD_fun (st := s_fold_up) D_fold_up
  clear D_fold_up
  have g_fold_up : mg "fold_up" = some (.ref (He.ga K "fold_up")) := He.glo_ok X G (cd.fact 4 (f := .glo "fold_up") rfl)
  have b_fold_up := F_fold_up.binds (ps := ["waiting", "claim"]) fun _ _ _ _ _ _ us hl => match us, hl with | [_, _], _ => rfl
  obtain ⟨d_parse_claim, D_parse_claim⟩ := cd.def_ 5 (d := defD "parse_claim" s_parse_claim) rfl
  have F_parse_claim : Fun K "parse_claim" "parse_claim" s_parse_claim (He.ga K "parse_claim") d_parse_claim := funD_fun (st := s_parse_claim) D_parse_claim
  clear D_parse_claim
  have g_parse_claim : mg "parse_claim" = some (.ref (He.ga K "parse_claim")) := He.glo_ok X G (cd.fact 5 (f := .glo "parse_claim") rfl)
  have b_parse_claim := F_parse_claim.binds (ps := ["text"]) fun _ _ _ _ _ _ us hl => match us, hl with | [_], _ => rfl
  obtain ⟨d_format_claim, D_format_claim⟩ := cd.def_ 6 (d := defD "format_claim" s_format_claim) rfl
  have F_format_claim : Fun K "format_claim" "format_claim" s_format_claim (He.ga K "format_claim") d_format_claim := funD_fun (st := s_format_claim) D_format_claim
  clear D_format_claim
  have g_format_claim : mg "format_claim" = some (.ref (He.ga K "format_claim")) := He.glo_ok X G (cd.fact 6 (f := .glo "format_claim") rfl)
  have b_format_claim := F_format_claim.binds (ps := ["claim"]) fun _ _ _ _ _ _ us hl => match us, hl with | [_], _ => rfl
  obtain ⟨d_law_cell, D_law_cell⟩ := cd.def_ 7 (d := defD "_law_cell" s_law_cell) rfl
  have F_law_cell : Fun K "_law_cell" "_law_cell" s_law_cell (He.ga K "_law_cell") d_law_cell := funD_fun (st := s_law_cell) D_law_cell
  clear D_law_cell
  have g_law_cell : mg "_law_cell" = some (.ref (He.ga K "_law_cell")) := He.glo_ok X G (cd.fact 7 (f := .glo "_law_cell") rfl)
  have b_law_cell := F_law_cell.binds (ps := ["script", "k"]) fun _ _ _ _ _ _ us hl => match us, hl with | [_, _], _ => rfl
  obtain ⟨d_law_digits, D_law_digits⟩ := cd.def_ 8 (d := defD "_law_digits" s_law_digits) rfl
  have F_law_digits : Fun K "_law_digits" "_law_digits" s_law_digits (He.ga K "_law_digits") d_law_digits := funD_fun (st := s_law_digits) D_law_digits
  clear D_law_digits
  have g_law_digits : mg "_law_digits" = some (.ref (He.ga K "_law_digits")) := He.glo_ok X G (cd.fact 8 (f := .glo "_law_digits") rfl)
  have b_law_digits := F_law_digits.binds (ps := ["cell", "sizes"]) fun _ _ _ _ _ _ us hl => match us, hl with | [_, _], _ => rfl
  obtain ⟨d_law_names, D_law_names⟩ := cd.def_ 9 (d := defD "_law_names" s_law_names) rfl
  have F_law_names : Fun K "_law_names" "_law_names" s_law_names (He.ga K "_law_names") d_law_names := funD_fun (st := s_law_names) D_law_names
  clear D_law_names
  have g_law_names : mg "_law_names" = some (.ref (He.ga K "_law_names")) := He.glo_ok X G (cd.fact 9 (f := .glo "_law_names") rfl)
  have b_law_names := F_law_names.binds (ps := ["digit", "count"]) fun _ _ _ _ _ _ us hl => match us, hl with | [_, _], _ => rfl
  obtain ⟨d_law_atom, D_law_atom⟩ := cd.def_ 10 (d := defD "_law_atom" s_law_atom) rfl
  have F_law_atom : Fun K "_law_atom" "_law_atom" s_law_atom (He.ga K "_law_atom") d_law_atom := funD_fun (st := s_law_atom) D_law_atom
  clear D_law_atom
  have g_law_atom : mg "_law_atom" = some (.ref (He.ga K "_law_atom")) := He.glo_ok X G (cd.fact 10 (f := .glo "_law_atom") rfl)
  have b_law_atom := F_law_atom.binds (ps := ["row", "at", "names"]) fun _ _ _ _ _ _ us hl => match us, hl with | [_, _, _], _ => rfl
  obtain ⟨d_law_claim, D_law_claim⟩ := cd.def_ 11 (d := defD "_law_claim" s_law_claim) rfl
  have F_law_claim : Fun K "_law_claim" "_law_claim" s_law_claim (He.ga K "_law_claim") d_law_claim := funD_fun (st := s_law_claim) D_law_claim
  clear D_law_claim
  have g_law_claim : mg "_law_claim" = some (.ref (He.ga K "_law_claim")) := He.glo_ok X G (cd.fact 11 (f := .glo "_law_claim") rfl)
  have b_law_claim := F_law_claim.binds (ps := ["row", "names", "many", "most", "deep"]) fun _ _ _ _ _ _ us hl => match us, hl with | [_, _, _, _, _], _ => rfl
  obtain ⟨d_law_fault, D_law_fault⟩ := cd.def_ 12 (d := defD "_law_fault" s_law_fault) rfl
  have F_law_fault : Fun K "_law_fault" "_law_fault" s_law_fault (He.ga K "_law_fault") d_law_fault := funD_fun (st := s_law_fault) D_law_fault
  clear D_law_fault
  have g_law_fault : mg "_law_fault" = some (.ref (He.ga K "_law_fault")) := He.glo_ok X G (cd.fact 12 (f := .glo "_law_fault") rfl)
  have b_law_fault := F_law_fault.binds (ps := ["text"]) fun _ _ _ _ _ _ us hl => match us, hl with | [_], _ => rfl
  obtain ⟨d_law_places, D_law_places⟩ := cd.def_ 13 (d := defD "_law_places" s_law_places) rfl
  have F_law_places : Fun K "_law_places" "_law_places" s_law_places (He.ga K "_law_places") d_law_places := funD_fun (st := s_law_places) D_law_places
  clear D_law_places
  have g_law_places : mg "_law_places" = some (.ref (He.ga K "_law_places")) := He.glo_ok X G (cd.fact 13 (f := .glo "_law_places") rfl)
  have b_law_places := F_law_places.binds (ps := ["words"]) fun _ _ _ _ _ _ us hl => match us, hl with | [_], _ => rfl
  obtain ⟨d_law_listed, D_law_listed⟩ := cd.def_ 14 (d := defD "_law_listed" s_law_listed) rfl
  have F_law_listed : Fun K "_law_listed" "_law_listed" s_law_listed (He.ga K "_law_listed") d_law_listed := funD_fun (st := s_law_listed) D_law_listed
  clear D_law_listed
  have g_law_listed : mg "_law_listed" = some (.ref (He.ga K "_law_listed")) := He.glo_ok X G (cd.fact 14 (f := .glo "_law_listed") rfl)
  have b_law_listed := F_law_listed.binds (ps := ["claim"]) fun _ _ _ _ _ _ us hl => match us, hl with | [_], _ => rfl
  obtain ⟨d_law_two, D_law_two⟩ := cd.def_ 15 (d := defD "_law_two" s_law_two) rfl
  have F_law_two : Fun K "_law_two" "_law_two" s_law_two (He.ga K "_law_two") d_law_two := funD_fun (st := s_law_two) D_law_two
  clear D_law_two
  have g_law_two : mg "_law_two" = some (.ref (He.ga K "_law_two")) := He.glo_ok X G (cd.fact 15 (f := .glo "_law_two") rfl)
  have b_law_two := F_law_two.binds (ps := ["left", "row", "names", "many", "word"]) fun _ _ _ _ _ _ us hl => match us, hl with | [_, _, _, _, _], _ => rfl
  obtain ⟨d_law_deep, D_law_deep⟩ := cd.def_ 16 (d := defD "_law_deep" s_law_deep) rfl
  have F_law_deep : Fun K "_law_deep" "_law_deep" s_law_deep (He.ga K "_law_deep") d_law_deep := funD_fun (st := s_law_deep) D_law_deep
  clear D_law_deep
  have g_law_deep : mg "_law_deep" = some (.ref (He.ga K "_law_deep")) := He.glo_ok X G (cd.fact 16 (f := .glo "_law_deep") rfl)
  have b_law_deep := F_law_deep.binds (ps := ["words", "many"]) fun _ _ _ _ _ _ us hl => match us, hl with | [_, _], _ => rfl
  obtain ⟨d_law_is_tuples, D_law_is_tuples⟩ := cd.def_ 17 (d := defD "_law_is_tuples" s_law_is_tuples) rfl
  have F_law_is_tuples : Fun K "_law_is_tuples" "_law_is_tuples" s_law_is_tuples (He.ga K "_law_is_tuples") d_law_is_tuples := funD_fun (st := s_law_is_tuples) D_law_is_tuples
  clear D_law_is_tuples
  have g_law_is_tuples : mg "_law_is_tuples" = some (.ref (He.ga K "_law_is_tuples")) := He.glo_ok X G (cd.fact 17 (f := .glo "_law_is_tuples") rfl)
  have b_law_is_tuples := F_law_is_tuples.binds (ps := ["claim"]) fun _ _ _ _ _ _ us hl => match us, hl with | [_], _ => rfl
  obtain ⟨d_law, D_law⟩ := cd.def_ 18 (d := defD "law" s_law) rfl
  have F_law : Fun K "law" "law" s_law (He.ga K "law") d_law := funD_fun (st := s_law) D_law

  have g_law : mg "law" = some (.ref (He.ga K "law")) := He.glo_ok X G (cd.fact 18 (f := .glo "law") rfl)
  have b_law := F_law.binds (ps := ["script"]) fun _ _ _ _ _ _ us hl => match us, hl with | [_], _ => rfl
  obtain ⟨d_BadClaim, D_BadClaim⟩ := cd.def_ 19 (d := defM "BadClaim" "__init__" "BadClaim.__init__" s_x_BadClaim) rfl
  have F_BadClaim : Fun K "__init__" "BadClaim.__init__" s_x_BadClaim (He.ma K (He.ga K "BadClaim") "__init__") d_BadClaim := funD_fun (st := s_x_BadClaim) D_BadClaim
  clear D_BadClaim
  have g_BadClaim : mg "BadClaim" = some (.ref (He.ga K "BadClaim")) := He.glo_ok X G (cd.fact 19 (f := .glo "BadClaim") rfl)
  have b_BadClaim := F_BadClaim.binds (ps := ["self", "word"]) fun _ _ _ _ _ _ us hl => match us, hl with | [_, _], _ => rfl
  have g_CareError : mg "CareError" = some (.ref (He.ga K "CareError")) := He.glo_ok X G (cd.fact 20 (f := .glo "CareError") rfl)
  have g_BadLine : mg "BadLine" = some (.ref (He.ga K "BadLine")) := He.glo_ok X G (cd.fact 21 (f := .glo "BadLine") rfl)
  have g_BadNode : mg "BadNode" = some (.ref (He.ga K "BadNode")) := He.glo_ok X G (cd.fact 22 (f := .glo "BadNode") rfl)
  have z_len : mg "len" = none := He.free_ok X G (cd.fact 23 (f := .free "len") rfl)
  have z_int : mg "int" = none := He.free_ok X G (cd.fact 24 (f := .free "int") rfl)
  have z_max : mg "max" = none := He.free_ok X G (cd.fact 25 (f := .free "max") rfl)
  have z_range : mg "range" = none := He.free_ok X G (cd.fact 26 (f := .free "range") rfl)
  have z_isinstance : mg "isinstance" = none := He.free_ok X G (cd.fact 27 (f := .free "isinstance") rfl)
  have z_list : mg "list" = none := He.free_ok X G (cd.fact 28 (f := .free "list") rfl)
  have z_tuple : mg "tuple" = none := He.free_ok X G (cd.fact 29 (f := .free "tuple") rfl)
  have z_str : mg "str" = none := He.free_ok X G (cd.fact 30 (f := .free "str") rfl)
  have z_all : mg "all" = none := He.free_ok X G (cd.fact 31 (f := .free "all") rfl)
  obtain ⟨v_LETTERS⟩ := gvB_ok X G (ex_at c.more 0)
  obtain ⟨v_SIGNS⟩ := gvB_ok X G (ex_at c.more 1)
  obtain ⟨v_NAMED⟩ := gvB_ok X G (ex_at c.more 2)
  obtain ⟨v_MOST_WORDS⟩ := gvB_ok X G (ex_at c.more 3)
  obtain ⟨v_MOST_DEPTH⟩ := gvB_ok X G (ex_at c.more 4)
  obtain ⟨v_HOLDING⟩ := gdB_ok (w := w) X G (ex_at c.more 5) (c.t.tab 0 rfl)
  cases hfa.symm.trans g_law
  refine ⟨d_law, fun s v => ?bl, fun base hb hG => ?_⟩
  case bl => exact FunD.bindsA (ps := ["script"]) D_law (fun _ _ _ _ _ _ us hl => match us, hl with | [_], _ => rfl) s [v] rfl
  obtain ⟨e_BadClaim, ec_BadClaim, ex_BadClaim, em_BadClaim⟩ := err_mk (P := P) (w := w) (base := base) (fd := d_BadClaim) (ps := ["self", "word"]) X G (ex_at c.more 6) g_BadClaim (fun T no => F_BadClaim.ok sc_x_BadClaim (spX_len rfl) fun cdv A outer s H vs Q E hr h => ⟨_, pss_one (ps_ost (pv 0) (pv 1)), readX1 T (no _ (by simp)) h rfl⟩) b_BadClaim
  have x_0 := of_decide_eq_true (ex_at c.more 7)
  have x_1 := of_decide_eq_true (ex_at c.more 8)
  obtain ⟨T, hT, hT1, hT2, hT3⟩ : ∃ T : Txt P w K mg base, T.eBadClaim = e_BadClaim ∧ T.ACareError = He.ga K "CareError" ∧ T.ABadLine = He.ga K "BadLine" ∧ T.ABadNode = He.ga K "BadNode" := ⟨{ len := z_len, int := z_int, max := z_max, range := z_range, isinstance := z_isinstance, list := z_list, tuple := z_tuple, str := z_str, all := z_all, LETTERS := v_LETTERS, SIGNS := v_SIGNS, NAMED := v_NAMED, MOST_WORDS := v_MOST_WORDS, MOST_DEPTH := v_MOST_DEPTH, HOLDING := v_HOLDING, eBadClaim := e_BadClaim, eBadClaim_x := ex_BadClaim, gBadClaim := by rw [ec_BadClaim]; exact g_BadClaim, ACareError := He.ga K "CareError", gCareError := g_CareError, ABadLine := He.ga K "BadLine", gBadLine := g_BadLine, ABadNode := He.ga K "BadNode", gBadNode := g_BadNode }, rfl, rfl, rfl, rfl⟩
  have c_is_name : Cal P w K mg base 1 "is_name" ["text"] φ_is_name := ⟨_, _, fn_is_name F_is_name T  len_is_name ok_is_name, g_is_name, F_is_name.kp, b_is_name⟩
  have c_is_spaced : Cal P w K mg base 1 "is_spaced" ["line"] φ_is_spaced := ⟨_, _, fn_is_spaced F_is_spaced T  len_is_spaced ok_is_spaced, g_is_spaced, F_is_spaced.kp, b_is_spaced⟩
  have c_first_word : Cal P w K mg base 3 "first_word" ["words", "at"] (φ_first_word T.eBadClaim.C) := ⟨_, _, fn_first_word F_first_word T  (len_first_word _) (ok_first_word _), g_first_word, F_first_word.kp, b_first_word⟩
  have c_claim_head : Cal P w K mg base 4 "claim_head" ["words", "at"] (φ_claim_head T.eBadClaim.C) := ⟨_, _, fn_claim_head F_claim_head T c_first_word c_is_name (len_claim_head _) (ok_claim_head _), g_claim_head, F_claim_head.kp, b_claim_head⟩
  have c_fold_up : CalG P w K mg base 1 "fold_up" ["waiting", "claim"] ψ_fold_up := ⟨_, _, fn_fold_up F_fold_up T  (fun ds0 ds q x h => by obtain ⟨w, hd, c, e1, e2, _⟩ := h; subst e2; rfl) ok_fold_up, g_fold_up, F_fold_up.kp, b_fold_up⟩
  have c_parse_claim : Cal P w K mg base 5 "parse_claim" ["text"] (φ_parse_claim T.eBadClaim.C) := ⟨_, _, fn_parse_claim F_parse_claim T c_claim_head c_fold_up c_is_spaced (len_parse_claim _) (ok_parse_claim _ hsplit), g_parse_claim, F_parse_claim.kp, b_parse_claim⟩
  have c_format_claim : Cal P w K mg base 1 "format_claim" ["claim"] φ_format_claim := ⟨_, _, fn_format_claim F_format_claim T  len_format_claim ok_format_claim, g_format_claim, F_format_claim.kp, b_format_claim⟩
  have c_law_cell : Cal P w K mg base 1 "_law_cell" ["script", "k"] φ_law_cell := ⟨_, _, fn_law_cell F_law_cell T  len_law_cell ok_law_cell, g_law_cell, F_law_cell.kp, b_law_cell⟩
  have c_law_digits : Cal P w K mg base 1 "_law_digits" ["cell", "sizes"] φ_law_digits := ⟨_, _, fn_law_digits F_law_digits T  len_law_digits ok_law_digits, g_law_digits, F_law_digits.kp, b_law_digits⟩
  have c_law_names : Cal P w K mg base 1 "_law_names" ["digit", "count"] φ_law_names := ⟨_, _, fn_law_names F_law_names T  len_law_names ok_law_names, g_law_names, F_law_names.kp, b_law_names⟩
  have c_law_atom : Cal P w K mg base 1 "_law_atom" ["row", "at", "names"] φ_law_atom := ⟨_, _, fn_law_atom F_law_atom T  len_law_atom ok_law_atom, g_law_atom, F_law_atom.kp, b_law_atom⟩
  have c_law_claim : Cal P w K mg base 2 "_law_claim" ["row", "names", "many", "most", "deep"] φ_law_claim := ⟨_, _, fn_law_claim F_law_claim T c_law_atom len_law_claim ok_law_claim, g_law_claim, F_law_claim.kp, b_law_claim⟩
  have c_law_fault : Cal P w K mg base 6 "_law_fault" ["text"] (φ_law_fault T.eBadClaim.C) := ⟨_, _, fn_law_fault F_law_fault T c_parse_claim (len_law_fault _) (ok_law_fault (by rw [hT]; exact em_BadClaim) (by rw [hT, hT1, ec_BadClaim]; exact x_0) (by rw [hT, hT2, hT3, ec_BadClaim]; exact x_1)), g_law_fault, F_law_fault.kp, b_law_fault⟩
  have c_law_places : Cal P w K mg base 1 "_law_places" ["words"] φ_law_places := ⟨_, _, fn_law_places F_law_places T  len_law_places ok_law_places, g_law_places, F_law_places.kp, b_law_places⟩
  have c_law_listed : ∀ n : Nat, n ≤ 12 → Nonempty (Cal P w K mg base (n + 2) "_law_listed" ["claim"] (φ_law_listed n)) := by
    intro n
    induction n with
    | zero => intro _; exact ⟨⟨_, _, none0, g_law_listed, F_law_listed.kp, b_law_listed⟩⟩
    | succ n ih =>
      intro hn
      obtain ⟨c0⟩ := ih (by omega)
      exact ⟨⟨_, _, fn_law_listed F_law_listed T n c0 (len_law_listed _) (ok_law_listed n), g_law_listed, F_law_listed.kp, b_law_listed⟩⟩
  obtain ⟨c_law_listed⟩ := c_law_listed 12 (by omega)
  have c_law_two : Cal P w K mg base 3 "_law_two" ["left", "row", "names", "many", "word"] φ_law_two := ⟨_, _, fn_law_two F_law_two T c_law_claim len_law_two ok_law_two, g_law_two, F_law_two.kp, b_law_two⟩
  have c_law_deep : Cal P w K mg base 1 "_law_deep" ["words", "many"] φ_law_deep := ⟨_, _, fn_law_deep F_law_deep T  len_law_deep ok_law_deep, g_law_deep, F_law_deep.kp, b_law_deep⟩
  have c_law_is_tuples : Cal P w K mg base 1 "_law_is_tuples" ["claim"] φ_law_is_tuples := ⟨_, _, fn_law_is_tuples F_law_is_tuples T  len_law_is_tuples ok_law_is_tuples, g_law_is_tuples, F_law_is_tuples.kp, b_law_is_tuples⟩
  exact fn_law F_law T c_law_cell c_law_claim c_law_deep c_law_digits c_law_fault c_law_is_tuples c_law_listed c_law_names c_law_places c_law_two c_format_claim c_parse_claim len_law (ok_law _)
end K90
open PySem PySem.W PySem.Calls PyProof.Rows
theorem PySem.Challenge.cw_caresfor_k90_claim_texts_holds : PySem.Challenge.rw_caresfor_k90_claim_texts.Holds := by
  w_on; o_law
  refine HandSHeadRun.head_any (r := OpenLaw.row PySem.Challenge.rw_caresfor_k90_claim_texts) (q := view (OpenLaw.row PySem.Challenge.rw_caresfor_k90_claim_texts).prog [34]) (H := K90.hk) (ob := K90.ob) (M := 3000) (loose := K90.loose) (d := HandSHeadRun.topDef (OpenLaw.row PySem.Challenge.rw_caresfor_k90_claim_texts).prog 34) (kwd := []) K90.ob_eq
    (by kernel_rfl) (fun s => by kernel_rfl) K90.run (by kernel_rfl) (by kernel_rfl) (by kernel_rfl) (by rfl) (by first | assumption | decide +kernel) (by decide +kernel) ⟨rfl, rfl, rfl, rfl, rfl, by decide +kernel⟩ ?hw ?hc
  case hw => w_witness2
  case hc =>
    refine LamX.walk_ofTsE (l := PySem.Challenge.rw_caresfor_k90_claim_texts) (n := 63) (k := 15) (x := "script") (CX := fun w => L2.CX (PySem.Challenge.rw_caresfor_k90_claim_texts).prog w) rfl (by decide) (by kernel_rfl) ⟨rfl, by decide, by decide⟩ ?F (fun w H s e s' z => Pu.cx_end H s e s' z)
    intro w mg fa h Y G hmg0
    obtain ⟨K, KX, c⟩ := Y
    have hmg : mg ("law" : PySem.Str) = some (.ref fa) := by
      have e : (HandSHeadRun.topDef (OpenLaw.row PySem.Challenge.rw_caresfor_k90_claim_texts).prog 34).name = ("law" : PySem.Str) := by kernel_rfl
      rw [← e]
      exact hmg0
    obtain ⟨fd, hb, hF⟩ := K90.facts (P := (PySem.Challenge.rw_caresfor_k90_claim_texts).prog) (w := w) KX G hmg c
    exact ⟨K, KX, Pu.law_at hb (fun H a ns hl _ hS => Pu.sp_end hS ⟨ns, rfl, hl, rfl⟩) hF⟩
