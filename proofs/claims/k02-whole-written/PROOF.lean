import PyProof.Rows.All
import Wide.All
import OpenK.AllK
import Wide.FinOn
import HandS.ForMost
import HandS.Codes
import HandS.Flow
import HandS.Style
import HandS.IsInst
import HandS.Walk
import HandS.Defaults
import HandS.RevRange
import HandS.Conv
import KE.DataMinMax
import HandS.SortKw
import KE.KEqDict
import HandS.More
import KE.GoesMore
import KE.GoesEnum
import KE.GoesZip
import KE.KStateDown
import HandS.Head0
import HandS.Head1
import HandS.Head2
import HandS.HeadEnd
import HandS.HeadHook1
import HandS.HeadHook2
import PySem.Challenge.RW_holetape_k02_whole_written
set_option Elab.async false
set_option linter.all false
set_option maxRecDepth 100000
set_option maxHeartbeats 4000000
/-! The data layer: readings without a heap, over HandS. -/
namespace Dl
open PySem PySem.Spec PyProof.Rows L2

/-! ### data -/
inductive D where
  | non | bl (b : Bool) | int (i : Int) | str (z : Str) | at (a : Addr) | ty (n : String)
  | lst (ds : List D) | tup (ds : List D)
  | dK (ks : List Key) (ds : List D) | dT (ks : List (List Key)) (ds : List D)
  | ins (C : Addr) (ns : List Str) (ds : List D)

mutual
def Rep (J : Hp) : D → V → Prop
  | .non, v => v = .non
  | .bl b, v => v = .bl b
  | .int i, v => v = .int i
  | .str z, v => v = .str z
  | .at a, v => v = .ref a
  | .ty n, v => v = .ty n
  | .lst ds, v => ∃ p vs, v = .ref p ∧ J p = some (.lst vs) ∧ Reps J ds vs
  | .tup ds, v => ∃ p vs, v = .ref p ∧ J p = some (.tup vs) ∧ Reps J ds vs
  | .dK ks ds, v => ∃ p kvs, v = .ref p ∧ J p = some (.dK kvs) ∧ kvs.map (·.1) = ks ∧ Reps J ds (kvs.map (·.2))
  | .dT ks ds, v => ∃ p kvs, v = .ref p ∧ J p = some (.dT kvs) ∧ kvs.map (·.1) = ks ∧ Reps J ds (kvs.map (·.2))
  | .ins C ns ds, v => ∃ p dx fs, v = .ref p ∧ J p = some (.ins C dx fs) ∧ fs.map (·.1) = ns ∧ Reps J ds (fs.map (·.2))
def Reps (J : Hp) : List D → List V → Prop
  | [], vs => vs = []
  | d :: ds, vs => ∃ v r, vs = v :: r ∧ Rep J d v ∧ Reps J ds r
end
mutual
theorem Rep.mono {J J' : Hp} (e : Same J J') : ∀ {d : D} {v : V}, Rep J d v → Rep J' d v
  | .non, _, h => by simp only [Rep] at h ⊢; exact h
  | .bl _, _, h => by simp only [Rep] at h ⊢; exact h
  | .int _, _, h => by simp only [Rep] at h ⊢; exact h
  | .str _, _, h => by simp only [Rep] at h ⊢; exact h
  | .at _, _, h => by simp only [Rep] at h ⊢; exact h
  | .ty _, _, h => by simp only [Rep] at h ⊢; exact h
  | .lst ds, _, h => by
    simp only [Rep] at h ⊢
    obtain ⟨p, vs, h1, h2, h3⟩ := h
    exact ⟨p, vs, h1, e _ _ h2, Reps.mono e h3⟩
  | .tup ds, _, h => by
    simp only [Rep] at h ⊢
    obtain ⟨p, vs, h1, h2, h3⟩ := h
    exact ⟨p, vs, h1, e _ _ h2, Reps.mono e h3⟩
  | .dK ks ds, _, h => by
    simp only [Rep] at h ⊢
    obtain ⟨p, vs, h1, h2, h3, h4⟩ := h
    exact ⟨p, vs, h1, e _ _ h2, h3, Reps.mono e h4⟩
  | .dT ks ds, _, h => by
    simp only [Rep] at h ⊢
    obtain ⟨p, vs, h1, h2, h3, h4⟩ := h
    exact ⟨p, vs, h1, e _ _ h2, h3, Reps.mono e h4⟩
  | .ins C ns ds, _, h => by
    simp only [Rep] at h ⊢
    obtain ⟨p, dx, vs, h1, h2, h3, h4⟩ := h
    exact ⟨p, dx, vs, h1, e _ _ h2, h3, Reps.mono e h4⟩
theorem Reps.mono {J J' : Hp} (e : Same J J') : ∀ {ds : List D} {vs : List V}, Reps J ds vs → Reps J' ds vs
  | [], _, h => by simp only [Reps] at h ⊢; exact h
  | d :: ds, _, h => by
    simp only [Reps] at h ⊢
    obtain ⟨v, r, h1, h2, h3⟩ := h
    exact ⟨v, r, h1, Rep.mono e h2, Reps.mono e h3⟩
end
section
variable {J J' H H' : Hp} {d : D} {ds es : List D} {v : V} {vs ws : List V}
theorem Reps.nil : Reps J [] [] := by simp only [Reps]
theorem Reps.cons (h : Rep J d v) (t : Reps J ds vs) : Reps J (d :: ds) (v :: vs) := by
  simp only [Reps]
  exact ⟨v, vs, rfl, h, t⟩
theorem Reps.uncons (h : Reps J (d :: ds) vs) : ∃ v r, vs = v :: r ∧ Rep J d v ∧ Reps J ds r := by
  simp only [Reps] at h
  exact h
theorem Reps.unnil (h : Reps J [] vs) : vs = [] := by
  simp only [Reps] at h
  exact h
theorem Reps.len : ∀ {ds : List D} {vs : List V}, Reps J ds vs → ds.length = vs.length
  | [], _, h => by rw [h.unnil]; rfl
  | d :: ds, _, h => by
    obtain ⟨v, r, rfl, _, h3⟩ := h.uncons
    rw [List.length_cons, List.length_cons, Reps.len h3]
theorem Reps.get : ∀ {ds : List D} {vs : List V} {i : Nat} {d : D}, Reps J ds vs → ds[i]? = some d → ∃ v, vs[i]? = some v ∧ Rep J d v
  | [], _, i, d, _, e => by simp at e
  | a :: ds, _, 0, d, h, e => by
    obtain ⟨v, r, rfl, h2, _⟩ := h.uncons
    simp at e
    subst e
    exact ⟨v, rfl, h2⟩
  | a :: ds, _, i + 1, d, h, e => by
    obtain ⟨v, r, rfl, _, h3⟩ := h.uncons
    simp at e
    simpa using Reps.get (i := i) h3 e
theorem Reps.get' : ∀ {ds : List D} {vs : List V} {i : Nat} {v : V}, Reps J ds vs → vs[i]? = some v → ∃ d, ds[i]? = some d ∧ Rep J d v
  | [], _, i, d, h, e => by rw [h.unnil] at e; simp at e
  | a :: ds, _, 0, d, h, e => by
    obtain ⟨v, r, rfl, h2, _⟩ := h.uncons
    simp at e
    subst e
    exact ⟨a, rfl, h2⟩
  | a :: ds, _, i + 1, d, h, e => by
    obtain ⟨v, r, rfl, _, h3⟩ := h.uncons
    simp at e
    simpa using Reps.get' (i := i) h3 e
theorem Reps.append : ∀ {ds : List D} {vs : List V}, Reps J ds vs → Reps J es ws → Reps J (ds ++ es) (vs ++ ws)
  | [], _, h, k => by rw [h.unnil]; exact k
  | d :: ds, _, h, k => by
    obtain ⟨v, r, rfl, h2, h3⟩ := h.uncons
    exact Reps.cons h2 (Reps.append h3 k)
theorem Reps.one (h : Rep J d v) : Reps J [d] [v] := .cons h .nil
theorem Reps.set : ∀ {ds : List D} {vs : List V} (i : Nat), Reps J ds vs → Rep J d v → Reps J (ds.set i d) (vs.set i v)
  | [], _, i, h, k => by rw [h.unnil]; simpa using Reps.nil
  | a :: ds, _, 0, h, k => by
    obtain ⟨v, r, rfl, h2, h3⟩ := h.uncons
    exact Reps.cons k h3
  | a :: ds, _, i + 1, h, k => by
    obtain ⟨v, r, rfl, h2, h3⟩ := h.uncons
    exact Reps.cons h2 (Reps.set i h3 k)
theorem Reps.take : ∀ {ds : List D} {vs : List V} (n : Nat), Reps J ds vs → Reps J (ds.take n) (vs.take n)
  | _, _, 0, _ => by simpa using Reps.nil
  | [], _, n + 1, h => by rw [h.unnil]; simpa using Reps.nil
  | d :: ds, _, n + 1, h => by
    obtain ⟨v, r, rfl, h2, h3⟩ := h.uncons
    exact Reps.cons h2 (Reps.take n h3)
theorem Reps.drop : ∀ {ds : List D} {vs : List V} (n : Nat), Reps J ds vs → Reps J (ds.drop n) (vs.drop n)
  | _, _, 0, h => h
  | [], _, n + 1, h => by rw [h.unnil]; simpa using Reps.nil
  | d :: ds, _, n + 1, h => by
    obtain ⟨v, r, rfl, h2, h3⟩ := h.uncons
    exact Reps.drop n h3
theorem Reps.reverse : ∀ {ds : List D} {vs : List V}, Reps J ds vs → Reps J ds.reverse vs.reverse
  | [], _, h => by rw [h.unnil]; exact Reps.nil
  | d :: ds, _, h => by
    obtain ⟨v, r, rfl, h2, h3⟩ := h.uncons
    rw [List.reverse_cons, List.reverse_cons]
    exact (Reps.reverse h3).append (.one h2)
theorem Reps.rep : ∀ (n : Nat), Reps J ds vs → Reps J (List.replicate n ds).flatten (List.replicate n vs).flatten
  | 0, _ => by simpa using Reps.nil
  | n + 1, h => by
    rw [List.replicate_succ, List.replicate_succ, List.flatten_cons, List.flatten_cons]
    exact h.append (Reps.rep n h)
theorem Reps.ints : ∀ {ns : List Int} {vs : List V}, Reps J (ns.map D.int) vs → vs = ns.map V.int
  | [], _, h => h.unnil
  | n :: ns, _, h => by
    obtain ⟨v, r, rfl, h2, h3⟩ := Reps.uncons (d := .int n) (ds := ns.map D.int) h
    simp only [Rep] at h2
    rw [h2, Reps.ints h3]
    rfl
theorem Reps.strs : ∀ {ns : List Str} {vs : List V}, Reps J (ns.map D.str) vs → vs = ns.map V.str
  | [], _, h => h.unnil
  | n :: ns, _, h => by
    obtain ⟨v, r, rfl, h2, h3⟩ := Reps.uncons (d := .str n) (ds := ns.map D.str) h
    simp only [Rep] at h2
    rw [h2, Reps.strs h3]
    rfl
theorem Reps.bls : ∀ {ns : List Bool} {vs : List V}, Reps J (ns.map D.bl) vs → vs = ns.map V.bl
  | [], _, h => h.unnil
  | n :: ns, _, h => by
    obtain ⟨v, r, rfl, h2, h3⟩ := Reps.uncons (d := .bl n) (ds := ns.map D.bl) h
    simp only [Rep] at h2
    rw [h2, Reps.bls h3]
    rfl
theorem Reps.of_ints : ∀ {ns : List Int}, Reps J (ns.map D.int) (ns.map V.int)
  | [] => Reps.nil
  | n :: ns => Reps.cons (by simp only [Rep]) Reps.of_ints
theorem Reps.of_strs : ∀ {ns : List Str}, Reps J (ns.map D.str) (ns.map V.str)
  | [] => Reps.nil
  | n :: ns => Reps.cons (by simp only [Rep]) Reps.of_strs
theorem Reps.of_bls : ∀ {ns : List Bool}, Reps J (ns.map D.bl) (ns.map V.bl)
  | [] => Reps.nil
  | n :: ns => Reps.cons (by simp only [Rep]) Reps.of_bls
end

/-! ### heaps -/
/-- the object o holds the datum -/
def Ob (J : Hp) : HO → D → Prop
  | .lst vs, .lst ds => Reps J ds vs
  | .dK kvs, .dK ks ds => kvs.map (·.1) = ks ∧ Reps J ds (kvs.map (·.2))
  | .dT kvs, .dT ks ds => kvs.map (·.1) = ks ∧ Reps J ds (kvs.map (·.2))
  | _, _ => False
theorem Ob.mono {J J' : Hp} (e : Same J J') : ∀ {o : HO} {d : D}, Ob J o d → Ob J' o d := by
  intro o d h
  cases o <;> cases d <;> first
    | exact Reps.mono e h
    | exact ⟨h.1, Reps.mono e h.2⟩
    | exact h
/-- an object that holds a datum may be frozen -/
theorem Ob.rep {J : Hp} {p : Addr} {o : HO} {d : D} (h : Ob J o d) (hp : J p = none) : Rep (upd J p o) d (.ref p) := by
  have e : Same J (upd J p o) := fun b u q => by rw [upd_ne (ne_of_none q hp)]; exact q
  cases o <;> cases d <;> first
    | (simp only [Rep]; exact ⟨p, _, rfl, upd_same, Reps.mono e h⟩)
    | (simp only [Rep]; exact ⟨p, _, rfl, upd_same, h.1, Reps.mono e h.2⟩)
    | exact h.elim
structure Ext (J H J' H' : Hp) : Prop where
  j : Same J J'
  h : Same H H'
  s : Same J' H'
  loc : ∀ b o, J' b = some o → J b = some o ∨ H b = none
section
variable {J H J1 H1 J2 H2 : Hp}
theorem Ext.refl (s : Same J H) : Ext J H J H := ⟨.refl _, .refl _, s, fun _ _ h => .inl h⟩
theorem Ext.trans (a : Ext J H J1 H1) (b : Ext J1 H1 J2 H2) : Ext J H J2 H2 := ⟨a.j.trans b.j, a.h.trans b.h, b.s, fun c o h => by
  rcases b.loc c o h with q | q
  · exact a.loc c o q
  · exact .inr (a.h.free q)⟩
/-- what is not of J but stands in H is not of J' -/
theorem Ext.out (a : Ext J H J1 H1) {p : Addr} {o : HO} (hj : J p = none) (hh : H p = some o) : J1 p = none := by
  cases q : J1 p with
  | none => rfl
  | some u =>
    rcases a.loc p u q with z | z
    · rw [hj] at z; cases z
    · rw [hh] at z; cases z
/-- the heap alone has grown -/
theorem Ext.grow (s : Same J H) (h : Same H H1) : Ext J H J H1 := ⟨.refl _, h, s.trans h, fun _ _ q => .inl q⟩
/-- a new object, part of what never changes -/
theorem Ext.lay {p : Addr} {o : HO} (s : Same J H) (hp : H p = none) : Ext J H (upd J p o) (upd H p o) := by
  have hj : J p = none := s.free hp
  refine ⟨fun b u q => by rw [upd_ne (ne_of_none q hj)]; exact q, fun b u q => by rw [upd_ne (ne_of_none q hp)]; exact q, fun b u q => ?_, fun b u q => ?_⟩
  · by_cases e : b = p
    · subst e; rw [upd_same] at q ⊢; exact q
    · rw [upd_ne e] at q ⊢; exact s _ _ q
  · by_cases e : b = p
    · subst e; exact .inr hp
    · rw [upd_ne e] at q; exact .inl q
/-- a new object that stays apart -/
theorem Ext.new {p : Addr} {o : HO} (s : Same J H) (hp : H p = none) : Ext J H J (upd H p o) :=
  .grow s fun b u q => by rw [upd_ne (ne_of_none q hp)]; exact q
end

/-! ### slots -/
inductive L where
  | im (d : D) | mu (d : D)
abbrev Env := List (Option L)
structure Ok (J H : Hp) (ρ : Env) (σ : L2.St) : Prop where
  s : Same J H
  len : ρ.length = σ.length
  im : ∀ (i : Nat) (d : D), ρ[i]? = some (some (.im d)) → ∃ v, σ[i]? = some (some v) ∧ Rep J d v
  mu : ∀ (i : Nat) (d : D), ρ[i]? = some (some (.mu d)) → ∃ p o, σ[i]? = some (some (.ref p)) ∧ J p = none ∧ H p = some o ∧ Ob J o d
  ap : ∀ (i j : Nat) (d e : D) (p : Addr), ρ[i]? = some (some (.mu d)) → ρ[j]? = some (some (.mu e)) → σ[i]? = some (some (.ref p)) → σ[j]? = some (some (.ref p)) → i = j
section
variable {J H J1 H1 J2 H2 : Hp} {ρ : Env} {σ : L2.St}
theorem Ok.ext (k : Ok J H ρ σ) (e : Ext J H J1 H1) : Ok J1 H1 ρ σ := ⟨e.s, k.len, fun i d h => by
    obtain ⟨v, h1, h2⟩ := k.im i d h
    exact ⟨v, h1, h2.mono e.j⟩, fun i d h => by
    obtain ⟨p, o, h1, h2, h3, h4⟩ := k.mu i d h
    exact ⟨p, o, h1, e.out h2 h3, e.h _ _ h3, h4.mono e.j⟩, k.ap⟩
end

/-! ### results -/
inductive R where
  | im (d : D) | nw (d : D) | mu (d : D)
def R.d : R → D
  | .im d => d
  | .nw d => d
  | .mu d => d
def RepR (J H J' H' : Hp) : R → V → Prop
  | .im d, v => Rep J' d v
  | .nw d, v => ∃ p o, v = .ref p ∧ H p = none ∧ J' p = none ∧ H' p = some o ∧ Ob J' o d
  | .mu d, v => ∃ p o, v = .ref p ∧ J' p = none ∧ H' p = some o ∧ Ob J' o d
def Cur (J H : Hp) : R → V → Prop
  | .im d, v => Rep J d v
  | .nw d, v => ∃ p o, v = .ref p ∧ J p = none ∧ H p = some o ∧ Ob J o d
  | .mu d, v => ∃ p o, v = .ref p ∧ J p = none ∧ H p = some o ∧ Ob J o d
section
variable {J H J1 H1 J2 H2 : Hp} {ρ : Env} {σ : L2.St} {r : R} {v : V}
theorem RepR.cur (h : RepR J H J1 H1 r v) : Cur J1 H1 r v := by
  cases r with
  | im d => exact h
  | nw d => obtain ⟨p, o, h1, _, h3, h4, h5⟩ := h; exact ⟨p, o, h1, h3, h4, h5⟩
  | mu d => exact h
theorem Cur.ext (h : Cur J H r v) (e : Ext J H J1 H1) : Cur J1 H1 r v := by
  cases r with
  | im d => exact Rep.mono e.j h
  | nw d => obtain ⟨p, o, h1, h3, h4, h5⟩ := h; exact ⟨p, o, h1, e.out h3 h4, e.h _ _ h4, h5.mono e.j⟩
  | mu d => obtain ⟨p, o, h1, h3, h4, h5⟩ := h; exact ⟨p, o, h1, e.out h3 h4, e.h _ _ h4, h5.mono e.j⟩
/-- a result lasts -/
theorem RepR.ext (h : RepR J H J1 H1 r v) (e : Ext J1 H1 J2 H2) : RepR J H J2 H2 r v := by
  cases r with
  | im d => exact Rep.mono e.j h
  | nw d => obtain ⟨p, o, h1, h2, h3, h4, h5⟩ := h; exact ⟨p, o, h1, h2, e.out h3 h4, e.h _ _ h4, h5.mono e.j⟩
  | mu d => obtain ⟨p, o, h1, h3, h4, h5⟩ := h; exact ⟨p, o, h1, e.out h3 h4, e.h _ _ h4, h5.mono e.j⟩
/-- a result of a later start is one of the earlier -/
theorem RepR.back (h : RepR J1 H1 J2 H2 r v) (e : Ext J H J1 H1) : RepR J H J2 H2 r v := by
  cases r with
  | im d => exact h
  | nw d => obtain ⟨p, o, h1, h2, h3, h4, h5⟩ := h; exact ⟨p, o, h1, e.h.free h2, h3, h4, h5⟩
  | mu d => exact h
theorem RepR.im (d : D) (h : Rep J1 d v) : RepR J H J1 H1 (.im d) v := h
/-- what a result's datum says of the heap -/
theorem Cur.lst {ds : List D} (s : Same J H) (h : Cur J H r v) (e : r.d = .lst ds) : ∃ p vs, v = .ref p ∧ H p = some (.lst vs) ∧ Reps J ds vs := by
  cases r with
  | im d =>
    have e : d = .lst ds := e
    subst e
    have h : Rep J (.lst ds) v := h
    simp only [Rep] at h
    obtain ⟨p, vs, h1, h2, h3⟩ := h
    exact ⟨p, vs, h1, s _ _ h2, h3⟩
  | nw d =>
    have e : d = .lst ds := e
    subst e
    obtain ⟨p, o, h1, h2, h3, h4⟩ := h
    cases o <;> first | exact ⟨p, _, h1, h3, h4⟩ | exact h4.elim
  | mu d =>
    have e : d = .lst ds := e
    subst e
    obtain ⟨p, o, h1, h2, h3, h4⟩ := h
    cases o <;> first | exact ⟨p, _, h1, h3, h4⟩ | exact h4.elim
theorem Cur.tup {ds : List D} (s : Same J H) (h : Cur J H r v) (e : r.d = .tup ds) : ∃ p vs, v = .ref p ∧ H p = some (.tup vs) ∧ Reps J ds vs ∧ Rep J (.tup ds) v := by
  cases r with
  | im d =>
    have e : d = .tup ds := e
    subst e
    have h : Rep J (.tup ds) v := h
    have h' := h
    simp only [Rep] at h
    obtain ⟨p, vs, h1, h2, h3⟩ := h
    exact ⟨p, vs, h1, s _ _ h2, h3, h'⟩
  | nw d =>
    have e : d = .tup ds := e
    subst e
    obtain ⟨p, o, h1, h2, h3, h4⟩ := h
    cases o <;> exact h4.elim
  | mu d =>
    have e : d = .tup ds := e
    subst e
    obtain ⟨p, o, h1, h2, h3, h4⟩ := h
    cases o <;> exact h4.elim
theorem Cur.dK {ks : List Key} {ds : List D} (s : Same J H) (h : Cur J H r v) (e : r.d = .dK ks ds) : ∃ p kvs, v = .ref p ∧ H p = some (.dK kvs) ∧ kvs.map (·.1) = ks ∧ Reps J ds (kvs.map (·.2)) := by
  cases r with
  | im d =>
    have e : d = .dK ks ds := e
    subst e
    have h : Rep J (.dK ks ds) v := h
    simp only [Rep] at h
    obtain ⟨p, vs, h1, h2, h3, h4⟩ := h
    exact ⟨p, vs, h1, s _ _ h2, h3, h4⟩
  | nw d =>
    have e : d = .dK ks ds := e
    subst e
    obtain ⟨p, o, h1, h2, h3, h4⟩ := h
    cases o <;> first | exact ⟨p, _, h1, h3, h4.1, h4.2⟩ | exact h4.elim
  | mu d =>
    have e : d = .dK ks ds := e
    subst e
    obtain ⟨p, o, h1, h2, h3, h4⟩ := h
    cases o <;> first | exact ⟨p, _, h1, h3, h4.1, h4.2⟩ | exact h4.elim
theorem Cur.dT {ks : List (List Key)} {ds : List D} (s : Same J H) (h : Cur J H r v) (e : r.d = .dT ks ds) : ∃ p kvs, v = .ref p ∧ H p = some (.dT kvs) ∧ kvs.map (·.1) = ks ∧ Reps J ds (kvs.map (·.2)) := by
  cases r with
  | im d =>
    have e : d = .dT ks ds := e
    subst e
    have h : Rep J (.dT ks ds) v := h
    simp only [Rep] at h
    obtain ⟨p, vs, h1, h2, h3, h4⟩ := h
    exact ⟨p, vs, h1, s _ _ h2, h3, h4⟩
  | nw d =>
    have e : d = .dT ks ds := e
    subst e
    obtain ⟨p, o, h1, h2, h3, h4⟩ := h
    cases o <;> first | exact ⟨p, _, h1, h3, h4.1, h4.2⟩ | exact h4.elim
  | mu d =>
    have e : d = .dT ks ds := e
    subst e
    obtain ⟨p, o, h1, h2, h3, h4⟩ := h
    cases o <;> first | exact ⟨p, _, h1, h3, h4.1, h4.2⟩ | exact h4.elim
/-- a scalar datum -/
theorem Cur.scal {d : D} (h : Cur J H r v) (e : r.d = d) (hd : (match d with | .non | .bl _ | .int _ | .str _ | .at _ | .ty _ | .ins _ _ _ => true | _ => false) = true) : Rep J d v := by
  cases r with
  | im x =>
    have e : x = d := e
    subst e
    exact h
  | nw x =>
    have e : x = d := e
    subst e
    obtain ⟨p, o, h1, h2, h3, h4⟩ := h
    cases x <;> first | exact absurd hd Bool.false_ne_true | (cases o <;> exact h4.elim)
  | mu x =>
    have e : x = d := e
    subst e
    obtain ⟨p, o, h1, h2, h3, h4⟩ := h
    cases x <;> first | exact absurd hd Bool.false_ne_true | (cases o <;> exact h4.elim)
theorem Cur.int {i : Int} (h : Cur J H r v) (e : r.d = .int i) : v = .int i := by
  have q := h.scal e rfl
  simp only [Rep] at q
  exact q
theorem Cur.str {i : Str} (h : Cur J H r v) (e : r.d = .str i) : v = .str i := by
  have q := h.scal e rfl
  simp only [Rep] at q
  exact q
theorem Cur.bl {i : Bool} (h : Cur J H r v) (e : r.d = .bl i) : v = .bl i := by
  have q := h.scal e rfl
  simp only [Rep] at q
  exact q
theorem Cur.non (h : Cur J H r v) (e : r.d = .non) : v = .non := by
  have q := h.scal e rfl
  simp only [Rep] at q
  exact q
theorem Cur.at {a : Addr} (h : Cur J H r v) (e : r.d = .at a) : v = .ref a := by
  have q := h.scal e rfl
  simp only [Rep] at q
  exact q
theorem Cur.ty {n : String} (h : Cur J H r v) (e : r.d = .ty n) : v = .ty n := by
  have q := h.scal e rfl
  simp only [Rep] at q
  exact q
/-- any result may be taken for good: what is new is frozen -/
theorem RepR.freeze {d : D} (s : Same J1 H1) (h : RepR J H J1 H1 r v) (e : Ext J H J1 H1) (hr : (match r with | .mu _ => false | _ => true) = true) : ∃ J2, Ext J H J2 H1 ∧ Same J1 J2 ∧ Rep J2 r.d v := by
  cases r with
  | im d => exact ⟨J1, e, .refl _, h⟩
  | nw d =>
    obtain ⟨p, o, h1, h2, h3, h4, h5⟩ := h
    have q : Same J1 (upd J1 p o) := fun b u q => by rw [upd_ne (ne_of_none q h3)]; exact q
    refine ⟨upd J1 p o, ⟨e.j.trans q, e.h, fun b u z => ?_, fun b u z => ?_⟩, q, ?_⟩
    · by_cases hb : b = p
      · subst hb; rw [upd_same] at z; rw [h4]; exact z
      · rw [upd_ne hb] at z; exact s _ _ z
    · by_cases hb : b = p
      · subst hb; exact .inr h2
      · rw [upd_ne hb] at z; exact e.loc _ _ z
    · rw [h1]; exact h5.rep h3
  | mu d => exact absurd hr Bool.false_ne_true
end

/-! ### readings over data -/
abbrev DE := Env → (R → Prop) → Prop
abbrev DT := Env → (Bool → Prop) → Prop
abbrev DA := Env → (List R → Prop) → Prop
inductive RepRs (J H J' H' : Hp) : List R → List V → Prop where
  | nil : RepRs J H J' H' [] []
  | cons {r : R} {v : V} {rs : List R} {vs : List V} : RepR J H J' H' r v → RepRs J H J' H' rs vs → RepRs J H J' H' (r :: rs) (v :: vs)
inductive Curs (J H : Hp) : List R → List V → Prop where
  | nil : Curs J H [] []
  | cons {r : R} {v : V} {rs : List R} {vs : List V} : Cur J H r v → Curs J H rs vs → Curs J H (r :: rs) (v :: vs)
section
variable {J H J1 H1 J2 H2 : Hp}
theorem RepRs.ext (e : Ext J1 H1 J2 H2) : ∀ {rs : List R} {vs : List V}, RepRs J H J1 H1 rs vs → RepRs J H J2 H2 rs vs
  | _, _, .nil => .nil
  | _, _, .cons a b => .cons (a.ext e) (RepRs.ext e b)
theorem RepRs.back (e : Ext J H J1 H1) : ∀ {rs : List R} {vs : List V}, RepRs J1 H1 J2 H2 rs vs → RepRs J H J2 H2 rs vs
  | _, _, .nil => .nil
  | _, _, .cons a b => .cons (a.back e) (RepRs.back e b)
theorem RepRs.curs : ∀ {rs : List R} {vs : List V}, RepRs J H J1 H1 rs vs → Curs J1 H1 rs vs
  | _, _, .nil => .nil
  | _, _, .cons a b => .cons a.cur (RepRs.curs b)
/-- all may be taken for good -/
theorem RepRs.freeze : ∀ {rs : List R} {vs : List V} {J1 : Hp}, RepRs J H J1 H1 rs vs → Ext J H J1 H1 → rs.all (fun r => match r with | .im _ => true | _ => false) = true → Reps J1 (rs.map R.d) vs
  | _, _, _, .nil, _, _ => Reps.nil
  | r :: rs, _, J1, .cons a b, e, h => by
    simp only [List.all_cons, Bool.and_eq_true] at h
    cases r with
    | im d => exact Reps.cons a (RepRs.freeze b e h.2)
    | nw d => exact absurd h.1 Bool.false_ne_true
    | mu d => exact absurd h.1 Bool.false_ne_true
end
def up (F : DE) : TE := fun σ H Q => ∃ J ρ P, Ok J H ρ σ ∧ F ρ P ∧ ∀ r, P r → ∀ v J' H', Ext J H J' H' → RepR J H J' H' r v → Q v H'
def upT (F : DT) : TT := fun σ H Q => ∃ J ρ P, Ok J H ρ σ ∧ F ρ P ∧ ∀ b, P b → ∀ J' H', Ext J H J' H' → Q b H'
def upA (F : DA) : TA := fun σ H Q => ∃ J ρ P, Ok J H ρ σ ∧ F ρ P ∧ ∀ rs, P rs → ∀ vs J' H', Ext J H J' H' → RepRs J H J' H' rs vs → Q vs H'
abbrev XE (X : Cx) (e : Expr) (F : DE) : Prop := PE X e (up F)
abbrev XT (X : Cx) (e : Expr) (F : DT) : Prop := PT X e (upT F)
abbrev XA (X : Cx) (es : List Expr) (F : DA) : Prop := PA X es (upA F)
section
variable {X : Cx} {e : Expr}
theorem pe_weak {t t' : TE} (h : PE X e t) (k : ∀ σ H Q, t' σ H Q → t σ H Q) : PE X e t' := ⟨fun pins s σ H Q I q => h.run pins s σ H Q I (k σ H Q q)⟩
theorem pt_weak {t t' : TT} (h : PT X e t) (k : ∀ σ H Q, t' σ H Q → t σ H Q) : PT X e t' := ⟨fun pins s σ H Q I q => h.run pins s σ H Q I (k σ H Q q)⟩
theorem pw_weak {t t' : TT} (h : PW X e t) (k : ∀ σ H Q, t' σ H Q → t σ H Q) : PW X e t' := ⟨fun wh pins s σ H Q I q => h.run wh pins s σ H Q I (k σ H Q q)⟩
theorem pa_weak {es : List Expr} {t t' : TA} (h : PA X es t) (k : ∀ σ H Q, t' σ H Q → t σ H Q) : PA X es t' := ⟨fun pos pins s σ H Q I q => h.run pos pins s σ H Q I (k σ H Q q)⟩
theorem ps_weak {st : Stmt} {t t' : TS} (h : PS X st t) (k : ∀ D σ H, t' D σ H → t D σ H) : PS X st t' := ⟨fun pins s σ H D I q => h.run pins s σ H D I (k D σ H q)⟩
theorem pss_weak {st : List Stmt} {t t' : TS} (h : PSs X st t) (k : ∀ D σ H, t' D σ H → t D σ H) : PSs X st t' := ⟨fun pins s σ H D I q => h.run pins s σ H D I (k D σ H q)⟩
end

/-! ### names, constants, operators -/
def dVar (i : Nat) (ρ : Env) (P : R → Prop) : Prop := match ρ[i]? with
  | some (some (.im d)) => P (.im d)
  | some (some (.mu d)) => P (.mu d)
  | _ => False
def dC (d : D) (_ : Env) (P : R → Prop) : Prop := P (.im d)
section
variable {X : Cx} {a b c e : Expr} {F G : DE} {pos : Pos}
theorem xe_var (i : Nat) {x : Str} (hN : X.N[i]? = some x := by rfl) (hv : Vis X.env.scope x := by first | exact Or.inl rfl | exact Or.inr (Or.inl rfl) | exact Or.inr (Or.inr rfl)) (hd : (x == ("__debug__" : Str)) = false := by decide)
    (hcd : (x == ("__classdict__" : Str)) = false := by decide) : XE X (.Name x pos) (dVar i) := by
  refine pe_weak (pe_var hN hv hd hcd) fun σ H Q h => ?_
  obtain ⟨J, ρ, P, k, h1, h2⟩ := h
  unfold dVar at h1
  split at h1
  · rename_i d e
    obtain ⟨v, hv1, hv2⟩ := k.im i d e
    exact ⟨v, hv1, h2 _ h1 v J H (.refl k.s) hv2⟩
  · rename_i d e
    obtain ⟨p, o, e1, e2, e3, e4⟩ := k.mu i d e
    exact ⟨.ref p, e1, h2 _ h1 _ J H (.refl k.s) ⟨p, o, rfl, e2, e3, e4⟩⟩
  · exact h1.elim
theorem xe_c {v : V} {d : D} (h : PE X e (tC v)) (r : ∀ J, Rep J d v) : XE X e (dC d) := by
  refine pe_weak h fun σ H Q h => ?_
  obtain ⟨J, ρ, P, k, h1, h2⟩ := h
  exact h2 _ h1 v J H (.refl k.s) (r J)
theorem xe_int {i : Int} {j} : XE X (.Constant (.int i) j pos) (dC (.int i)) := xe_c pe_int fun J => by simp only [Rep]
theorem xe_bl {i : Bool} {j} : XE X (.Constant (.bool i) j pos) (dC (.bl i)) := xe_c pe_bl fun J => by simp only [Rep]
theorem xe_non {j} : XE X (.Constant .none j pos) (dC .non) := xe_c pe_non fun J => by simp only [Rep]
theorem xe_str {i : Str} {j} : XE X (.Constant (.str i) j pos) (dC (.str i)) := xe_c pe_str fun J => by simp only [Rep]
/-- a module's constant -/
theorem xe_gstr {x : Str} {z : Str} (hg : Gl X x) (h : ∃ u, X.mg x = some u ∧ RelV (.str z) u) (hd : (x == ("__debug__" : Str)) = false := by decide) : XE X (.Name x pos) (dC (.str z)) := xe_c (C8.pe_gc hg h hd) fun J => by simp only [Rep]
theorem xe_gint {x : Str} {z : Int} (hg : Gl X x) (h : ∃ u, X.mg x = some u ∧ RelV (.int z) u) (hd : (x == ("__debug__" : Str)) = false := by decide) : XE X (.Name x pos) (dC (.int z)) := xe_c (C8.pe_gc hg h hd) fun J => by simp only [Rep]
theorem xe_gat {x : Str} {a : Addr} (hg : Gl X x) (h : ∃ u, X.mg x = some u ∧ RelV (.ref a) u) (hd : (x == ("__debug__" : Str)) = false := by decide) : XE X (.Name x pos) (dC (.at a)) := xe_c (C8.pe_gc hg h hd) fun J => by simp only [Rep]
theorem xe_ty {x : Str} {n : String} {u : Value} (hg : Gl X x) (hm : X.mg x = none) (hv : bootBuiltins x = some u) (r : RelV (.ty n) u) (hn : x ≠ "__name__" := by decide) (hd : (x == ("__debug__" : Str)) = false := by decide) : XE X (.Name x pos) (dC (.ty n)) :=
  xe_c (pe_bltn hg hm hv r hn hd) fun J => by simp only [Rep]

abbrev RD2 := R → R → (R → Prop) → Prop
abbrev RD1 := R → (R → Prop) → Prop
abbrev RDA := List R → (R → Prop) → Prop
/-- what is to be shown of an operation: from the data's word to the heap's -/
def Lift2 (r : R2) (f : RD2) : Prop := ∀ (J H : Hp) (x y : R) (v w : V) (P : R → Prop) (Q : VK), Same J H → Cur J H x v → Cur J H y w → f x y P → (∀ r, P r → ∀ z J' H', Ext J H J' H' → RepR J H J' H' r z → Q z H') → r v w H Q
def Lift1 (r : V → Hp → VK → Prop) (f : RD1) : Prop := ∀ (J H : Hp) (x : R) (v : V) (P : R → Prop) (Q : VK), Same J H → Cur J H x v → f x P → (∀ r, P r → ∀ z J' H', Ext J H J' H' → RepR J H J' H' r z → Q z H') → r v H Q
def LiftA (r : List V → Hp → VK → Prop) (f : RDA) : Prop := ∀ (J H : Hp) (xs : List R) (vs : List V) (P : R → Prop) (Q : VK), Same J H → Curs J H xs vs → f xs P → (∀ r, P r → ∀ z J' H', Ext J H J' H' → RepR J H J' H' r z → Q z H') → r vs H Q
def dOp (f : RD2) (F G : DE) (ρ : Env) (P : R → Prop) : Prop := F ρ fun x => G ρ fun y => f x y P
def dUn (f : RD1) (F : DE) (ρ : Env) (P : R → Prop) : Prop := F ρ fun x => f x P
def dCB (f : RDA) (F : DA) (ρ : Env) (P : R → Prop) : Prop := F ρ fun xs => f xs P
theorem up_op {r : R2} {f : RD2} (l : Lift2 r f) {σ : L2.St} {H : Hp} {Q : VK} (h : up (dOp f F G) σ H Q) : tOp r (up F) (up G) σ H Q := by
  obtain ⟨J, ρ, P, k, h1, h2⟩ := h
  refine ⟨J, ρ, _, k, h1, fun x hx v J1 H1 e1 r1 => ?_⟩
  refine ⟨J1, ρ, _, k.ext e1, hx, fun y hy w J2 H2 e2 r2 => ?_⟩
  exact l J2 H2 x y v w P Q e2.s (r1.ext e2).cur r2.cur hy fun z hz u J3 H3 e3 r3 => h2 z hz u J3 H3 ((e1.trans e2).trans e3) (r3.back (e1.trans e2))
theorem up_un {r : V → Hp → VK → Prop} {f : RD1} (l : Lift1 r f) {σ : L2.St} {H : Hp} {Q : VK} (h : up (dUn f F) σ H Q) : tUn r (up F) σ H Q := by
  obtain ⟨J, ρ, P, k, h1, h2⟩ := h
  refine ⟨J, ρ, _, k, h1, fun x hx v J1 H1 e1 r1 => ?_⟩
  exact l J1 H1 x v P Q e1.s r1.cur hx fun z hz u J3 H3 e3 r3 => h2 z hz u J3 H3 (e1.trans e3) (r3.back e1)
theorem up_cb {A : DA} {r : List V → Hp → VK → Prop} {f : RDA} (l : LiftA r f) {σ : L2.St} {H : Hp} {Q : VK} (h : up (dCB f A) σ H Q) : tCB r (upA A) σ H Q := by
  obtain ⟨J, ρ, P, k, h1, h2⟩ := h
  refine ⟨J, ρ, _, k, h1, fun xs hx vs J1 H1 e1 r1 => ?_⟩
  exact l J1 H1 xs vs P Q e1.s r1.curs hx fun z hz u J3 H3 e3 r3 => h2 z hz u J3 H3 (e1.trans e3) (r3.back e1)
theorem xe_op {op : Operator} {r : R2} {f : RD2} (ho : OpR X (binaryOp op) r) (l : Lift2 r f) (ha : XE X a F) (hb : XE X b G) : XE X (.BinOp a op b pos) (dOp f F G) := pe_weak (pe_op ho ha hb) fun σ H Q h => up_op l h
theorem xe_un {op : UnaryOp} {r : V → Hp → VK → Prop} {f : RD1} (ho : UnR X (unaryOp op) r) (l : Lift1 r f) (ha : XE X a F) : XE X (.UnaryOp op a pos) (dUn f F) := pe_weak (pe_un ho ha) fun σ H Q h => up_un l h
theorem xe_cmp {op : CmpOp} {r : R2} {f : RD2} (ho : OpR X (compareOp op) r) (l : Lift2 r f) (ha : XE X a F) (hb : XE X b G) (hm : behindInMarks op b = false) : XE X (.Compare a [op] [b] pos) (dOp f F G) := pe_weak (pe_cmpR ho ha hb hm) fun σ H Q h => up_op l h
theorem xe_ix {r : R2} {f : RD2} (hr : IxR X r) (l : Lift2 r f) (ha : XE X a F) (hb : XE X b G) (hs : PlainIx b) : XE X (.Subscript a b pos) (dOp f F G) := pe_weak (pe_ix hr ha hb hs) fun σ H Q h => up_op l h

/-! ### tests -/
/-- a value that is True or False, as a test -/
def dTest (F : DE) (ρ : Env) (P : Bool → Prop) : Prop := F ρ fun r => match r.d with
  | .bl b => P b
  | _ => False
theorem up_test {σ : L2.St} {H : Hp} {Q : Bool → Hp → Prop} (h : upT (dTest F) σ H Q) : up F σ H (fun x H' => ∃ k, x = .bl k ∧ Q k H') := by
  obtain ⟨J, ρ, P, k, h1, h2⟩ := h
  refine ⟨J, ρ, _, k, h1, fun r hr v J1 H1 e1 r1 => ?_⟩
  split at hr
  · rename_i b e
    exact ⟨b, r1.cur.bl e, h2 b hr J1 H1 e1⟩
  · exact hr.elim
theorem xt_cmp {op : CmpOp} {r : R2} {f : RD2} (ho : OpR X (compareOp op) r) (l : Lift2 r f) (ha : XE X a F) (hb : XE X b G) (hm : behindInMarks op b = false) : XT X (.Compare a [op] [b] pos) (dTest (dOp f F G)) :=
  pt_weak (pt_cmpR ho ha hb hm) fun σ H Q h => up_op l (Q := fun x H' => ∃ k, x = .bl k ∧ Q k H') (by
    obtain ⟨J, ρ, P, k, h1, h2⟩ := h
    refine ⟨J, ρ, _, k, h1, fun r hr v J1 H1 e1 r1 => ?_⟩
    split at hr
    · rename_i b e
      exact ⟨b, r1.cur.bl e, h2 b hr J1 H1 e1⟩
    · exact hr.elim)
theorem xt_val (ha : XE X e F) (he : ∀ whole, isTrue e X.env whole = (do let v ← whole; standAt e.pos; holding [v] (truthy v)) := by intro _; rfl) : XT X e (dTest F) := pt_weak (pt_val ha he) fun σ H Q h => up_test h
def dAndT (F G : DT) (ρ : Env) (P : Bool → Prop) : Prop := F ρ fun b => match b with
  | true => G ρ P
  | false => P false
def dOrT (F G : DT) (ρ : Env) (P : Bool → Prop) : Prop := F ρ fun b => match b with
  | true => P true
  | false => G ρ P
def dNotT (F : DT) (ρ : Env) (P : Bool → Prop) : Prop := F ρ fun b => P (!b)
section
variable {F G : DT} {rest : List Expr}
theorem upT_and {σ : L2.St} {H : Hp} {Q : Bool → Hp → Prop} (h : upT (dAndT F G) σ H Q) : tAnd (upT F) (upT G) σ H Q := by
  obtain ⟨J, ρ, P, k, h1, h2⟩ := h
  refine ⟨J, ρ, _, k, h1, fun b hb J1 H1 e1 => ?_⟩
  cases b with
  | true => exact iteT ⟨J1, ρ, P, k.ext e1, hb, fun c hc J2 H2 e2 => h2 c hc J2 H2 (e1.trans e2)⟩
  | false => exact iteF (h2 false hb J1 H1 e1)
theorem upT_or {σ : L2.St} {H : Hp} {Q : Bool → Hp → Prop} (h : upT (dOrT F G) σ H Q) : tOr (upT F) (upT G) σ H Q := by
  obtain ⟨J, ρ, P, k, h1, h2⟩ := h
  refine ⟨J, ρ, _, k, h1, fun b hb J1 H1 e1 => ?_⟩
  cases b with
  | true => exact iteT (h2 true hb J1 H1 e1)
  | false => exact iteF ⟨J1, ρ, P, k.ext e1, hb, fun c hc J2 H2 e2 => h2 c hc J2 H2 (e1.trans e2)⟩
theorem xw_and1 (ha : XT X a F) : PW X (.BoolOp .And [a] pos) (upT F) := pw_and1 ha
theorem xw_or1 (ha : XT X a F) : PW X (.BoolOp .Or [a] pos) (upT F) := pw_or1 ha
theorem xw_and (ha : XT X a F) (hb : PW X (.BoolOp .And (b :: rest) pos) (upT G)) : PW X (.BoolOp .And (a :: b :: rest) pos) (upT (dAndT F G)) := pw_weak (pw_and ha hb) fun σ H Q h => upT_and h
theorem xw_or (ha : XT X a F) (hb : PW X (.BoolOp .Or (b :: rest) pos) (upT G)) : PW X (.BoolOp .Or (a :: b :: rest) pos) (upT (dOrT F G)) := pw_weak (pw_or ha hb) fun σ H Q h => upT_or h
theorem xt_w (h : PW X a (upT F)) : XT X a F := h.pt
theorem xt_not (ha : XT X a F) : XT X (.UnaryOp .Not a pos) (dNotT F) := pt_weak (pt_not ha) fun σ H Q h => by
  obtain ⟨J, ρ, P, k, h1, h2⟩ := h
  exact ⟨J, ρ, _, k, h1, fun b hb J1 H1 e1 => h2 _ hb J1 H1 e1⟩
end
/-! ### and, or, not, if as values -/
def dAnd (F G : DE) (ρ : Env) (P : R → Prop) : Prop := F ρ fun r => match r.d with
  | .bl true => G ρ P
  | .bl false => P (.im (.bl false))
  | _ => False
def dOr (F G : DE) (ρ : Env) (P : R → Prop) : Prop := F ρ fun r => match r.d with
  | .bl true => P (.im (.bl true))
  | .bl false => G ρ P
  | _ => False
def dNot (F : DE) (ρ : Env) (P : R → Prop) : Prop := F ρ fun r => match r.d with
  | .bl b => P (.im (.bl (!b)))
  | _ => False
def dIf (T : DT) (F G : DE) (ρ : Env) (P : R → Prop) : Prop := T ρ fun b => match b with
  | true => F ρ P
  | false => G ρ P
variable {rest : List Expr} {T : DT}
theorem xe_one {op} (h : XE X a F) : XE X (.BoolOp op [a] pos) F := pe_one h
theorem xe_and (ha : XE X a F) (hb : XE X (.BoolOp .And (b :: rest) pos) G) : XE X (.BoolOp .And (a :: b :: rest) pos) (dAnd F G) := pe_weak (pe_and ha hb) fun σ H Q h => by
  obtain ⟨J, ρ, P, k, h1, h2⟩ := h
  refine ⟨J, ρ, _, k, h1, fun r hr v J1 H1 e1 r1 => ?_⟩
  split at hr
  · rename_i e
    exact ⟨true, r1.cur.bl e, iteT ⟨J1, ρ, P, k.ext e1, hr, fun z hz u J2 H2 e2 r2 => h2 z hz u J2 H2 (e1.trans e2) (r2.back e1)⟩⟩
  · rename_i e
    exact ⟨false, r1.cur.bl e, iteF (h2 _ hr _ J1 H1 e1 (by show Rep _ _ _; simp only [Rep]))⟩
  · exact hr.elim
theorem xe_or (ha : XE X a F) (hb : XE X (.BoolOp .Or (b :: rest) pos) G) : XE X (.BoolOp .Or (a :: b :: rest) pos) (dOr F G) := pe_weak (pe_or ha hb) fun σ H Q h => by
  obtain ⟨J, ρ, P, k, h1, h2⟩ := h
  refine ⟨J, ρ, _, k, h1, fun r hr v J1 H1 e1 r1 => ?_⟩
  split at hr
  · rename_i e
    exact ⟨true, r1.cur.bl e, iteT (h2 _ hr _ J1 H1 e1 (by show Rep _ _ _; simp only [Rep]))⟩
  · rename_i e
    exact ⟨false, r1.cur.bl e, iteF ⟨J1, ρ, P, k.ext e1, hr, fun z hz u J2 H2 e2 r2 => h2 z hz u J2 H2 (e1.trans e2) (r2.back e1)⟩⟩
  · exact hr.elim
theorem xe_not (ha : XE X a F) : XE X (.UnaryOp .Not a pos) (dNot F) := pe_weak (pe_not ha) fun σ H Q h => by
  obtain ⟨J, ρ, P, k, h1, h2⟩ := h
  refine ⟨J, ρ, _, k, h1, fun r hr v J1 H1 e1 r1 => ?_⟩
  split at hr
  · rename_i c e
    exact ⟨c, r1.cur.bl e, h2 _ hr _ J1 H1 e1 (by show Rep _ _ _; simp only [Rep])⟩
  · exact hr.elim
theorem xe_if (hc : XT X c T) (ha : XE X a F) (hb : XE X b G) : XE X (.IfExp c a b pos) (dIf T F G) := pe_weak (pe_ifExp hc ha hb) fun σ H Q h => by
  obtain ⟨J, ρ, P, k, h1, h2⟩ := h
  refine ⟨J, ρ, _, k, h1, fun d hd J1 H1 e1 => ?_⟩
  cases d with
  | true => exact iteT ⟨J1, ρ, P, k.ext e1, hd, fun z hz u J2 H2 e2 r2 => h2 z hz u J2 H2 (e1.trans e2) (r2.back e1)⟩
  | false => exact iteF ⟨J1, ρ, P, k.ext e1, hd, fun z hz u J2 H2 e2 r2 => h2 z hz u J2 H2 (e1.trans e2) (r2.back e1)⟩
end

/-! ### arguments, displays -/
def dNil (_ : Env) (P : List R → Prop) : Prop := P []
def dCons (F : DE) (A : DA) (ρ : Env) (P : List R → Prop) : Prop := F ρ fun r => A ρ fun rs => P (r :: rs)
/-- all of them as they stay -/
def allIm (rs : List R) : Bool := rs.all fun r => match r with
  | .im _ => true
  | _ => false
def dLst (A : DA) (ρ : Env) (P : R → Prop) : Prop := A ρ fun rs => allIm rs = true ∧ rs.length ≤ sizeLine ∧ P (.nw (.lst (rs.map R.d)))
def dTup (A : DA) (ρ : Env) (P : R → Prop) : Prop := A ρ fun rs => allIm rs = true ∧ rs.length ≤ sizeLine ∧ P (.im (.tup (rs.map R.d)))
/-- what is new is frozen -/
def dFz (F : DE) (ρ : Env) (P : R → Prop) : Prop := F ρ fun r => match r with
  | .im d => P (.im d)
  | .nw d => P (.im d)
  | .mu _ => False
section
variable {X : Cx} {e : Expr} {es : List Expr} {F : DE} {A : DA} {pos : Pos}
theorem xa_nil : XA X [] dNil := pa_weak pa_nil fun σ H Q h => by
  obtain ⟨J, ρ, P, k, h1, h2⟩ := h
  exact h2 _ h1 _ J H (.refl k.s) .nil
theorem xa_cons (ha : XE X e F) (hr : XA X es A) (hs : starEach (e :: es) X.env = (false, eval e X.env) :: starEach es X.env := by rfl) : XA X (e :: es) (dCons F A) := pa_weak (pa_cons ha hr hs) fun σ H Q h => by
  obtain ⟨J, ρ, P, k, h1, h2⟩ := h
  refine ⟨J, ρ, _, k, h1, fun r hr v J1 H1 e1 r1 => ?_⟩
  exact ⟨J1, ρ, _, k.ext e1, hr, fun rs hrs vs J2 H2 e2 r2 => h2 _ hrs _ J2 H2 (e1.trans e2) (.cons (r1.ext e2) (r2.back e1))⟩
theorem xe_fz (h : XE X e F) : XE X e (dFz F) := pe_weak h fun σ H Q h => by
  obtain ⟨J, ρ, P, k, h1, h2⟩ := h
  refine ⟨J, ρ, _, k, h1, fun r hr v J1 H1 e1 r1 => ?_⟩
  cases r with
  | im d => exact h2 _ hr v J1 H1 e1 r1
  | nw d =>
    obtain ⟨J2, e2, _, r2⟩ := RepR.freeze (d := d) e1.s r1 e1 rfl
    exact h2 _ hr v J2 H1 e2 r2
  | mu d => exact hr.elim
theorem Ob.lst {J : Hp} {ds : List D} {vs : List V} (h : Reps J ds vs) : Ob J (.lst vs) (.lst ds) := h
/-- a new list laid -/
theorem new_lst {J H : Hp} {ds : List D} {vs : List V} {p : Addr} (s : Same J H) (hp : H p = none) (h : Reps J ds vs) : RepR J H J (upd H p (.lst vs)) (.nw (.lst ds)) (.ref p) := ⟨p, .lst vs, rfl, hp, s.free hp, upd_same, h⟩
theorem new_dK {J H : Hp} {ks : List Key} {ds : List D} {kvs : List (Key × V)} {p : Addr} (s : Same J H) (hp : H p = none) (hk : kvs.map (·.1) = ks) (h : Reps J ds (kvs.map (·.2))) : RepR J H J (upd H p (.dK kvs)) (.nw (.dK ks ds)) (.ref p) := ⟨p, .dK kvs, rfl, hp, s.free hp, upd_same, hk, h⟩
theorem lay_tup {J H : Hp} {ds : List D} {vs : List V} {p : Addr} (s : Same J H) (hp : H p = none) (h : Reps J ds vs) : Rep (upd J p (.tup vs)) (.tup ds) (.ref p) := by
  simp only [Rep]
  exact ⟨p, vs, rfl, upd_same, h.mono (Ext.lay s hp (o := .tup vs)).j⟩
theorem xe_lst (ha : XA X es A) : XE X (.List es pos) (dLst A) := pe_weak (pe_lst ha) fun σ H Q h => by
  obtain ⟨J, ρ, P, k, h1, h2⟩ := h
  refine ⟨J, ρ, _, k, h1, fun rs hrs vs J1 H1 e1 r1 => ?_⟩
  obtain ⟨a1, a2, a3⟩ := hrs
  have q := r1.freeze e1 a1
  have ql := q.len
  rw [List.length_map] at ql
  refine ⟨by rw [← ql]; exact a2, fun p hp => ?_⟩
  exact h2 _ a3 _ J1 _ (e1.trans (Ext.new e1.s hp)) ((new_lst e1.s hp q).back e1)
theorem xe_tup {k} (ha : XA X es A) : XE X (.Tuple es k pos) (dTup A) := pe_weak (pe_tup ha) fun σ H Q h => by
  obtain ⟨J, ρ, P, k, h1, h2⟩ := h
  refine ⟨J, ρ, _, k, h1, fun rs hrs vs J1 H1 e1 r1 => ?_⟩
  obtain ⟨a1, a2, a3⟩ := hrs
  have q := r1.freeze e1 a1
  have ql := q.len
  rw [List.length_map] at ql
  refine ⟨by rw [← ql]; exact a2, fun p hp => ?_⟩
  exact h2 _ a3 _ _ _ (e1.trans (Ext.lay e1.s hp)) (lay_tup e1.s hp q)
end
end Dl
set_option Elab.async false
set_option linter.all false
set_option maxRecDepth 100000
set_option maxHeartbeats 4000000
/-! The data layer: statements, loops, comprehensions, calls. -/
namespace Dl
open PySem PySem.Spec PyProof.Rows L2

/-! ### frames: what a def must leave as it was -/
structure Fr (J0 H0 J H : Hp) (ρ : Env) (σ : L2.St) : Prop where
  j : Same J0 J
  h : Same H0 H
  loc : ∀ b o, J b = some o → J0 b = some o ∨ H0 b = none
  mu : ∀ (i : Nat) (d : D) (p : Addr), ρ[i]? = some (some (.mu d)) → σ[i]? = some (some (.ref p)) → H0 p = none
section
variable {J0 H0 J H J1 H1 J2 H2 : Hp} {ρ ρ' : Env} {σ σ' : L2.St}
theorem Fr.ext (f : Fr J0 H0 J H ρ σ) (e : Ext J H J1 H1) : Fr J0 H0 J1 H1 ρ σ := ⟨f.j.trans e.j, f.h.trans e.h, fun b o q => by
  rcases e.loc b o q with z | z
  · exact f.loc b o z
  · exact .inr (f.h.free z), f.mu⟩
theorem Fr.toExt (f : Fr J0 H0 J H ρ σ) (s : Same J H) : Ext J0 H0 J H := ⟨f.j, f.h, s, f.loc⟩
/-- the frame begins anew at J -/
theorem Fr.renew (f : Fr J0 H0 J H ρ σ) : Fr J H0 J H ρ σ := ⟨.refl _, f.h, fun _ _ q => .inl q, f.mu⟩
theorem Fr.under (f : Fr J0 H0 J H ρ σ) (g : Fr J H0 J1 H1 ρ' σ') : Fr J0 H0 J1 H1 ρ' σ' := ⟨f.j.trans g.j, g.h, fun b o q => by
  rcases g.loc b o q with z | z
  · exact f.loc b o z
  · exact .inr z, g.mu⟩
theorem Fr.extUnder (f : Fr J0 H0 J H ρ σ) (e : Ext J H0 J1 H1) : Ext J0 H0 J1 H1 := ⟨f.j.trans e.j, e.h, e.s, fun b o q => by
  rcases e.loc b o q with z | z
  · exact f.loc b o z
  · exact .inr z⟩
/-- a slot takes a lasting value -/
theorem Ok.setIm (k : Ok J H ρ σ) (i : Nat) {d : D} {v : V} (r : Rep J d v) : Ok J H (ρ.set i (some (.im d))) (σ.set i (some v)) := by
  refine ⟨k.s, by rw [List.length_set, List.length_set]; exact k.len, fun j e h => ?_, fun j e h => ?_, fun j l e f p h1 h2 h3 h4 => ?_⟩
  · by_cases hj : i = j
    · subst hj
      have hl : i < ρ.length := by
        have := (List.getElem?_eq_some_iff.mp h).1
        rwa [List.length_set] at this
      rw [List.getElem?_set_self hl] at h
      cases h
      exact ⟨v, by rw [List.getElem?_set_self (by rw [← k.len]; exact hl)], r⟩
    · rw [List.getElem?_set_ne hj] at h
      rw [List.getElem?_set_ne hj]
      exact k.im j e h
  · by_cases hj : i = j
    · subst hj
      have hl : i < ρ.length := by
        have := (List.getElem?_eq_some_iff.mp h).1
        rwa [List.length_set] at this
      rw [List.getElem?_set_self hl] at h
      cases h
    · rw [List.getElem?_set_ne hj] at h
      rw [List.getElem?_set_ne hj]
      exact k.mu j e h
  · have n1 : i ≠ j := fun z => by
      subst z
      have hl : i < ρ.length := by
        have := (List.getElem?_eq_some_iff.mp h1).1
        rwa [List.length_set] at this
      rw [List.getElem?_set_self hl] at h1
      cases h1
    have n2 : i ≠ l := fun z => by
      subst z
      have hl : i < ρ.length := by
        have := (List.getElem?_eq_some_iff.mp h2).1
        rwa [List.length_set] at this
      rw [List.getElem?_set_self hl] at h2
      cases h2
    rw [List.getElem?_set_ne n1] at h1 h3
    rw [List.getElem?_set_ne n2] at h2 h4
    exact k.ap j l e f p h1 h2 h3 h4
theorem Fr.setIm (f : Fr J0 H0 J H ρ σ) (i : Nat) {d : D} {v : V} : Fr J0 H0 J H (ρ.set i (some (.im d))) (σ.set i (some v)) := by
  refine ⟨f.j, f.h, f.loc, fun j e p h1 h2 => ?_⟩
  have n1 : i ≠ j := fun z => by
    subst z
    have hl : i < ρ.length := by
      have := (List.getElem?_eq_some_iff.mp h1).1
      rwa [List.length_set] at this
    rw [List.getElem?_set_self hl] at h1
    cases h1
  rw [List.getElem?_set_ne n1] at h1 h2
  exact f.mu j e p h1 h2
/-- a slot takes an object of its own: it stands apart from those of the other slots -/
theorem Ok.setMu (k : Ok J H ρ σ) (i : Nat) {d : D} {p : Addr} {o : HO} (hj : J p = none) (hp : H p = some o) (ho : Ob J o d) (ap : ∀ (j : Nat) (e : D), ρ[j]? = some (some (.mu e)) → j ≠ i → σ[j]? ≠ some (some (.ref p))) :
    Ok J H (ρ.set i (some (.mu d))) (σ.set i (some (.ref p))) := by
  refine ⟨k.s, by rw [List.length_set, List.length_set]; exact k.len, fun j e h => ?_, fun j e h => ?_, fun j l e f q h1 h2 h3 h4 => ?_⟩
  · by_cases hj : i = j
    · subst hj
      have hl : i < ρ.length := by
        have := (List.getElem?_eq_some_iff.mp h).1
        rwa [List.length_set] at this
      rw [List.getElem?_set_self hl] at h
      cases h
    · rw [List.getElem?_set_ne hj] at h
      rw [List.getElem?_set_ne hj]
      exact k.im j e h
  · by_cases hij : i = j
    · subst hij
      have hl : i < ρ.length := by
        have := (List.getElem?_eq_some_iff.mp h).1
        rwa [List.length_set] at this
      rw [List.getElem?_set_self hl] at h
      cases h
      exact ⟨p, o, by rw [List.getElem?_set_self (by rw [← k.len]; exact hl)], hj, hp, ho⟩
    · rw [List.getElem?_set_ne hij] at h
      rw [List.getElem?_set_ne hij]
      exact k.mu j e h
  · by_cases hij : i = j
    · by_cases hil : i = l
      · rw [← hij, ← hil]
      · subst hij
        have hl : i < σ.length := by
          have := (List.getElem?_eq_some_iff.mp h3).1
          rwa [List.length_set] at this
        rw [List.getElem?_set_self hl] at h3
        cases h3
        rw [List.getElem?_set_ne hil] at h2 h4
        exact absurd h4 (ap l f h2 (Ne.symm hil))
    · by_cases hil : i = l
      · subst hil
        have hl : i < σ.length := by
          have := (List.getElem?_eq_some_iff.mp h4).1
          rwa [List.length_set] at this
        rw [List.getElem?_set_self hl] at h4
        cases h4
        rw [List.getElem?_set_ne hij] at h1 h3
        exact absurd h3 (ap j e h1 (Ne.symm hij))
      · rw [List.getElem?_set_ne hij] at h1 h3
        rw [List.getElem?_set_ne hil] at h2 h4
        exact k.ap j l e f q h1 h2 h3 h4
theorem Fr.setMu (f : Fr J0 H0 J H ρ σ) (i : Nat) {d : D} {p : Addr} (hp : H0 p = none) : Fr J0 H0 J H (ρ.set i (some (.mu d))) (σ.set i (some (.ref p))) := by
  refine ⟨f.j, f.h, f.loc, fun j e q h1 h2 => ?_⟩
  by_cases n1 : i = j
  · subst n1
    have hl : i < σ.length := by
      have := (List.getElem?_eq_some_iff.mp h2).1
      rwa [List.length_set] at this
    rw [List.getElem?_set_self hl] at h2
    cases h2
    exact hp
  · rw [List.getElem?_set_ne n1] at h1 h2
    exact f.mu j e q h1 h2
/-- the object of a slot changes -/
theorem Ok.change (k : Ok J H ρ σ) {i : Nat} {d d' : D} {p : Addr} {o : HO} (hi : ρ[i]? = some (some (.mu d))) (hv : σ[i]? = some (some (.ref p))) (ho : Ob J o d') : Ok J (upd H p o) (ρ.set i (some (.mu d'))) σ := by
  obtain ⟨p', o', e1, e2, e3, e4⟩ := k.mu i d hi
  rw [hv] at e1
  cases e1
  have hl : i < ρ.length := (List.getElem?_eq_some_iff.mp hi).1
  refine ⟨fun b u q => by rw [upd_ne (ne_of_none q e2)]; exact k.s _ _ q, by rw [List.length_set]; exact k.len, fun j e h => ?_, fun j e h => ?_, fun j l e f q h1 h2 h3 h4 => ?_⟩
  · by_cases hj : i = j
    · subst hj
      rw [List.getElem?_set_self hl] at h
      cases h
    · rw [List.getElem?_set_ne hj] at h
      exact k.im j e h
  · by_cases hij : i = j
    · subst hij
      rw [List.getElem?_set_self hl] at h
      cases h
      exact ⟨p, o, hv, e2, upd_same, ho⟩
    · rw [List.getElem?_set_ne hij] at h
      obtain ⟨q, u, f1, f2, f3, f4⟩ := k.mu j e h
      refine ⟨q, u, f1, f2, ?_, f4⟩
      rw [upd_ne (fun z => hij (k.ap i j d e p hi h hv (by rw [f1, z])))]
      exact f3
  · have g1 : ∃ x, ρ[j]? = some (some (.mu x)) := by
      by_cases hij : i = j
      · subst hij; exact ⟨d, hi⟩
      · rw [List.getElem?_set_ne hij] at h1; exact ⟨e, h1⟩
    have g2 : ∃ x, ρ[l]? = some (some (.mu x)) := by
      by_cases hij : i = l
      · subst hij; exact ⟨d, hi⟩
      · rw [List.getElem?_set_ne hij] at h2; exact ⟨f, h2⟩
    obtain ⟨x1, g1⟩ := g1
    obtain ⟨x2, g2⟩ := g2
    exact k.ap j l x1 x2 q g1 g2 h3 h4
theorem Fr.change (f : Fr J0 H0 J H ρ σ) {i : Nat} {d d' : D} {p : Addr} {o : HO} (hi : ρ[i]? = some (some (.mu d))) (hv : σ[i]? = some (some (.ref p))) : Fr J0 H0 J (upd H p o) (ρ.set i (some (.mu d'))) σ := by
  have hp := f.mu i d p hi hv
  have hl : i < ρ.length := (List.getElem?_eq_some_iff.mp hi).1
  refine ⟨f.j, fun b u q => by rw [upd_ne (ne_of_none q hp)]; exact f.h _ _ q, f.loc, fun j e q h1 h2 => ?_⟩
  by_cases hij : i = j
  · subst hij
    rw [hv] at h2
    cases h2
    exact hp
  · rw [List.getElem?_set_ne hij] at h1
    exact f.mu j e q h1 h2
/-- the object of a slot is frozen -/
theorem Ok.freeze (k : Ok J H ρ σ) (f : Fr J0 H0 J H ρ σ) {i : Nat} {d : D} (hi : ρ[i]? = some (some (.mu d))) : ∃ J', Ok J' H (ρ.set i (some (.im d))) σ ∧ Fr J0 H0 J' H (ρ.set i (some (.im d))) σ ∧ Same J J' := by
  obtain ⟨p, o, e1, e2, e3, e4⟩ := k.mu i d hi
  have hl : i < ρ.length := (List.getElem?_eq_some_iff.mp hi).1
  have s1 : Same J (upd J p o) := fun b u q => by rw [upd_ne (ne_of_none q e2)]; exact q
  have nr : ∀ (j : Nat) (e : D), (ρ.set i (some (.im d)))[j]? = some (some (.mu e)) → i ≠ j ∧ ρ[j]? = some (some (.mu e)) := fun j e h => by
    by_cases hij : i = j
    · subst hij
      rw [List.getElem?_set_self hl] at h
      cases h
    · rw [List.getElem?_set_ne hij] at h
      exact ⟨hij, h⟩
  refine ⟨upd J p o, ⟨fun b u q => ?_, by rw [List.length_set]; exact k.len, fun j e h => ?_, fun j e h => ?_, fun j l e g q h1 h2 h3 h4 => ?_⟩, ⟨f.j.trans s1, f.h, fun b u q => ?_, fun j e q h1 h2 => ?_⟩, s1⟩
  · by_cases hb : b = p
    · subst hb; rw [upd_same] at q; rw [e3]; exact q
    · rw [upd_ne hb] at q; exact k.s _ _ q
  · by_cases hij : i = j
    · subst hij
      rw [List.getElem?_set_self hl] at h
      cases h
      exact ⟨.ref p, e1, e4.rep e2⟩
    · rw [List.getElem?_set_ne hij] at h
      obtain ⟨v, g1, g2⟩ := k.im j e h
      exact ⟨v, g1, g2.mono s1⟩
  · obtain ⟨hij, h⟩ := nr j e h
    obtain ⟨q, u, f1, f2, f3, f4⟩ := k.mu j e h
    refine ⟨q, u, f1, ?_, f3, f4.mono s1⟩
    rw [upd_ne (fun z => hij (k.ap i j d e p hi h e1 (by rw [f1, z])))]
    exact f2
  · exact k.ap j l e g q (nr j e h1).2 (nr l g h2).2 h3 h4
  · by_cases hb : b = p
    · subst hb; exact .inr (f.mu i d b hi e1)
    · rw [upd_ne hb] at q; exact f.loc _ _ q
  · exact f.mu j e q (nr j e h1).2 h2
end

/-! ### statements -/
structure DEnds where
  nx : Env → Prop
  rt : D → Prop
  bk : Env → Prop := fun _ => False
  ct : Env → Prop := fun _ => False
abbrev DTS := DEnds → Env → Prop
structure Tie (J0 H0 : Hp) (DD : DEnds) (E : Ends) : Prop where
  nx : ∀ {ρ σ J H}, Ok J H ρ σ → Fr J0 H0 J H ρ σ → DD.nx ρ → E.nx σ H
  bk : ∀ {ρ σ J H}, Ok J H ρ σ → Fr J0 H0 J H ρ σ → DD.bk ρ → E.bk σ H
  ct : ∀ {ρ σ J H}, Ok J H ρ σ → Fr J0 H0 J H ρ σ → DD.ct ρ → E.ct σ H
  rt : ∀ {d v J H}, Ext J0 H0 J H → Rep J d v → DD.rt d → E.rt v H
def ups (T : DTS) : TS := fun E σ H => ∃ J0 H0 J ρ DD, Ok J H ρ σ ∧ Fr J0 H0 J H ρ σ ∧ T DD ρ ∧ Tie J0 H0 DD E
abbrev XS (X : Cx) (st : Stmt) (T : DTS) : Prop := PS X st (ups T)
abbrev XSs (X : Cx) (st : List Stmt) (T : DTS) : Prop := PSs X st (ups T)
def dNext (DD : DEnds) (ρ : Env) : Prop := DD.nx ρ
def dSeq (T U : DTS) (DD : DEnds) (ρ : Env) : Prop := T { DD with nx := U DD } ρ
def dNever (_ : DEnds) (_ : Env) : Prop := False
def dBrk (DD : DEnds) (ρ : Env) : Prop := DD.bk ρ
def dCnt (DD : DEnds) (ρ : Env) : Prop := DD.ct ρ
def dRet (F : DE) (DD : DEnds) (ρ : Env) : Prop := F ρ fun r => match r with
  | .im d => DD.rt d
  | .nw d => DD.rt d
  | .mu _ => False
def dRetN (DD : DEnds) (_ : Env) : Prop := DD.rt .non
def dDrop (F : DE) (DD : DEnds) (ρ : Env) : Prop := F ρ fun _ => DD.nx ρ
def dIfS (C : DT) (T U : DTS) (DD : DEnds) (ρ : Env) : Prop := C ρ fun b => match b with
  | true => T DD ρ
  | false => U DD ρ
/-- the slot's object is frozen first -/
def dFrz (i : Nat) (T : DTS) (DD : DEnds) (ρ : Env) : Prop := match ρ[i]? with
  | some (some (.mu d)) => T DD (ρ.set i (some (.im d)))
  | _ => False
section
variable {X : Cx} {st : Stmt} {rest a b : List Stmt} {T U : DTS} {e c : Expr} {F : DE} {C : DT} {pos : Pos}
theorem xss_nil : XSs X [] dNext := pss_weak pss_nil fun E σ H h => by
  obtain ⟨J0, H0, J, ρ, DD, k, f, h1, t⟩ := h
  exact t.nx k f h1
theorem ups_seq {E : Ends} {σ : L2.St} {H : Hp} (h : ups (dSeq T U) E σ H) : tSeq (ups T) (ups U) E σ H := by
  obtain ⟨J0, H0, J, ρ, DD, k, f, h1, t⟩ := h
  exact ⟨J0, H0, J, ρ, _, k, f, h1, ⟨fun k' f' h' => ⟨J0, H0, _, _, DD, k', f', h', t⟩, t.bk, t.ct, t.rt⟩⟩
theorem xss_cons (h1 : XS X st T) (h2 : XSs X rest U) : XSs X (st :: rest) (dSeq T U) := pss_weak (pss_cons h1 h2) fun E σ H h => ups_seq h
theorem xss_one (h : XS X st T) : XSs X [st] T := pss_one h
theorem xs_never : XS X st dNever := ps_weak ps_never fun E σ H h => by
  obtain ⟨J0, H0, J, ρ, DD, k, f, h1, t⟩ := h
  exact h1
theorem xs_pass : XS X (.Pass pos) dNext := ps_weak ps_pass fun E σ H h => by
  obtain ⟨J0, H0, J, ρ, DD, k, f, h1, t⟩ := h
  exact t.nx k f h1
theorem xs_break : XS X (.Break pos) dBrk := ps_weak ps_break fun E σ H h => by
  obtain ⟨J0, H0, J, ρ, DD, k, f, h1, t⟩ := h
  exact t.bk k f h1
theorem xs_continue : XS X (.Continue pos) dCnt := ps_weak ps_continue fun E σ H h => by
  obtain ⟨J0, H0, J, ρ, DD, k, f, h1, t⟩ := h
  exact t.ct k f h1
theorem xs_ret (he : XE X e F) : XS X (.Return (some e) pos) (dRet F) := ps_weak (ps_ret he) fun E σ H h => by
  obtain ⟨J0, H0, J, ρ, DD, k, f, h1, t⟩ := h
  refine ⟨J, ρ, _, k, h1, fun r hr v J1 H1 e1 r1 => ?_⟩
  cases r with
  | im d => exact t.rt ((f.ext e1).toExt e1.s) r1 hr
  | nw d =>
    obtain ⟨J2, e2, _, r2⟩ := RepR.freeze (d := d) e1.s r1 e1 rfl
    exact t.rt ((f.ext e2).toExt e2.s) r2 hr
  | mu d => exact hr.elim
theorem xs_retN : XS X (.Return none pos) dRetN := ps_weak ps_retN fun E σ H h => by
  obtain ⟨J0, H0, J, ρ, DD, k, f, h1, t⟩ := h
  exact t.rt (f.toExt k.s) (by simp only [Rep]) h1
theorem xs_expr (he : XE X e F) (hs : swapsWith e none pos.line X.env = pure false := by rfl) : XS X (.Expr e pos) (dDrop F) := ps_weak (ps_expr he hs) fun E σ H h => by
  obtain ⟨J0, H0, J, ρ, DD, k, f, h1, t⟩ := h
  exact ⟨J, ρ, _, k, h1, fun r hr v J1 H1 e1 r1 => t.nx (k.ext e1) (f.ext e1) hr⟩
theorem xs_if (hc : XT X c C) (ha : XSs X a T) (hb : XSs X b U) : XS X (.If c a b pos) (dIfS C T U) := ps_weak (ps_if hc ha hb) fun E σ H h => by
  obtain ⟨J0, H0, J, ρ, DD, k, f, h1, t⟩ := h
  refine ⟨J, ρ, _, k, h1, fun d hd J1 H1 e1 => ?_⟩
  cases d with
  | true => exact iteT ⟨J0, H0, J1, ρ, DD, k.ext e1, f.ext e1, hd, t⟩
  | false => exact iteF ⟨J0, H0, J1, ρ, DD, k.ext e1, f.ext e1, hd, t⟩
theorem xs_frz (i : Nat) (h : XS X st T) : XS X st (dFrz i T) := ps_weak h fun E σ H h => by
  obtain ⟨J0, H0, J, ρ, DD, k, f, h1, t⟩ := h
  unfold dFrz at h1
  split at h1
  · rename_i d e
    obtain ⟨J', k', f', _⟩ := k.freeze f e
    exact ⟨J0, H0, J', _, DD, k', f', h1, t⟩
  · exact h1.elim
end

/-! ### targets -/
abbrev DG := R → Env → (Env → Prop) → Prop
abbrev DGs := List D → Env → (Env → Prop) → Prop
/-- a slot's store: m: an object of its own -/
def dSt (m : Bool) (i : Nat) (r : R) (ρ : Env) (N : Env → Prop) : Prop := match m, r with
  | false, .im d => N (ρ.set i (some (.im d)))
  | false, .nw d => N (ρ.set i (some (.im d)))
  | true, .nw d => N (ρ.set i (some (.mu d)))
  | _, _ => False
def dGNil (ds : List D) (ρ : Env) (N : Env → Prop) : Prop := match ds with
  | [] => N ρ
  | _ => False
def dGCons (g : DG) (gs : DGs) (ds : List D) (ρ : Env) (N : Env → Prop) : Prop := match ds with
  | d :: r => g (.im d) ρ fun ρ' => gs r ρ' N
  | [] => False
def dGTup (gs : DGs) (r : R) (ρ : Env) (N : Env → Prop) : Prop := match r.d with
  | .tup ds => gs ds ρ N
  | _ => False
/-- is: the slots that it may store -/
def upg (is : List Nat) (g : DG) : TG := fun v σ H Q => ∃ Jb Hb J ρ r N, Ok Jb Hb ρ σ ∧ Ext Jb Hb J H ∧ RepR Jb Hb J H r v ∧ g r ρ N ∧
  ∀ ρ' σ' J' H', Ok J' H' ρ' σ' → Ext Jb Hb J' H' → (∀ J0 H0, Fr J0 H0 Jb Hb ρ σ → Fr J0 H0 J' H' ρ' σ') → (σ'.length = σ.length ∧ ∀ i, i ∉ is → σ'[i]? = σ[i]?) → N ρ' → Q σ' H'
def upgs (is : List Nat) (g : DGs) : TGs := fun vs σ H Q => ∃ J ρ ds N, Ok J H ρ σ ∧ Reps J ds vs ∧ g ds ρ N ∧
  ∀ ρ' σ' J' H', Ok J' H' ρ' σ' → Ext J H J' H' → (∀ J0 H0, Fr J0 H0 J H ρ σ → Fr J0 H0 J' H' ρ' σ') → (σ'.length = σ.length ∧ ∀ i, i ∉ is → σ'[i]? = σ[i]?) → N ρ' → Q σ' H'
abbrev XG (X : Cx) (tg : Expr) (is : List Nat) (g : DG) : Prop := PG X tg (upg is g)
abbrev XGs (X : Cx) (tgs : List Expr) (is : List Nat) (g : DGs) : Prop := PGs X tgs (upgs is g)
theorem set_off {σ : L2.St} {i : Nat} {v : Option V} : (σ.set i v).length = σ.length ∧ ∀ j, j ∉ [i] → (σ.set i v)[j]? = σ[j]? := ⟨List.length_set, fun j hj => List.getElem?_set_ne (fun z => hj (by rw [z]; exact List.mem_singleton.mpr rfl))⟩
section
variable {X : Cx} {pos : Pos}
theorem g_store {m : Bool} {i : Nat} {v : V} {σ : L2.St} {H : Hp} {Q : L2.St → Hp → Prop} (h : upg [i] (dSt m i) v σ H Q) : gName i v σ H Q := by
  obtain ⟨Jb, Hb, J, ρ, r, N, k, e, rr, h1, h2⟩ := h
  cases m with
  | false =>
    cases r with
    | im d => exact h2 _ _ J H ((k.ext e).setIm i rr) e (fun J0 H0 f => (f.ext e).setIm i) set_off h1
    | nw d =>
      obtain ⟨J2, e2, s2, r2⟩ := RepR.freeze (d := d) e.s rr e rfl
      exact h2 _ _ J2 H ((k.ext e2).setIm i r2) e2 (fun J0 H0 f => (f.ext e2).setIm i) set_off h1
    | mu d => exact h1.elim
  | true =>
    cases r with
    | im d => exact h1.elim
    | nw d =>
      obtain ⟨p, o, rfl, g1, g2, g3, g4⟩ := rr
      refine h2 _ _ J H ((k.ext e).setMu i g2 g3 g4 fun j x hx hj z => ?_) e (fun J0 H0 f => (f.ext e).setMu i (f.h.free g1)) set_off h1
      obtain ⟨q, u, f1, f2, f3, f4⟩ := k.mu j x hx
      rw [z] at f1
      cases f1
      rw [g1] at f3
      cases f3
    | mu d => exact h1.elim
theorem xg_st (m : Bool) {i : Nat} {x : Str} (hN : X.N.Nodup) (hi : X.N[i]? = some x) (hx : Loc X.env.scope x) (hf : X.fn x = true ∨ X.env.scope.names.lookup x = some .local := by first | exact .inl rfl | exact .inr rfl | assumption) : XG X (.Name x pos) [i] (dSt m i) :=
  ⟨fun pins s σ H v u Q I r h => (pg_name hN hi hx hf).run pins s σ H v u Q I r (g_store h)⟩
theorem xgs_nil : XGs X [] [] dGNil := ⟨fun pins s σ H vs us Q I r h => pgs_nil.run pins s σ H vs us Q I r (by
  obtain ⟨J, ρ, ds, N, k, rs, h1, h2⟩ := h
  cases ds with
  | nil => exact ⟨rs.unnil, h2 ρ σ J H k (.refl k.s) (fun _ _ f => f) ⟨rfl, fun _ _ => rfl⟩ h1⟩
  | cons d ds => exact h1.elim)⟩
theorem xgs_cons {e : Expr} {es : List Expr} {is js : List Nat} {g : DG} {gs : DGs} (h1 : XG X e is g) (h2 : XGs X es js gs)
    (hs : (assignEach (e :: es) X.env).map (·.2) = assign e X.env :: (assignEach es X.env).map (·.2) := by rfl) : XGs X (e :: es) (is ++ js) (dGCons g gs) := ⟨fun pins s σ H vs us Q I r h => (pgs_cons h1 h2 hs).run pins s σ H vs us Q I r (by
  obtain ⟨J, ρ, ds, N, k, rs, h1, h2⟩ := h
  cases ds with
  | nil => exact h1.elim
  | cons d ds =>
    obtain ⟨v, w, rfl, r1, r2⟩ := rs.uncons
    refine ⟨v, w, rfl, J, H, J, ρ, .im d, _, k, .refl k.s, r1, h1, fun ρ1 σ1 J1 H1 k1 e1 f1 o1 n1 => ?_⟩
    refine ⟨J1, ρ1, ds, _, k1, r2.mono e1.j, n1, fun ρ2 σ2 J2 H2 k2 e2 f2 o2 n2 => ?_⟩
    refine h2 ρ2 σ2 J2 H2 k2 (e1.trans e2) (fun J0 H0 f => f2 _ _ (f1 _ _ f)) ⟨o2.1.trans o1.1, fun i hi => ?_⟩ n2
    rw [o2.2 i (fun z => hi (List.mem_append_right _ z)), o1.2 i (fun z => hi (List.mem_append_left _ z))])⟩
theorem xg_tup {es : List Expr} {k : Nat} {n : Nat} {is : List Nat} {gs : DGs} (hc : X.calm = true) (h : XGs X es is gs) (hgl : ∀ ds ρ N, gs ds ρ N → ds.length = n)
    (hn : (assignEach es X.env).length = n := by rfl) (hst : (assignEach es X.env).findIdx? (·.1) = none := by rfl) : XG X (.Tuple es k pos) is (dGTup gs) := ⟨fun pins s σ H v u Q I r hh => (pg_tup hc h hn hst).run pins s σ H v u Q I r (by
  obtain ⟨Jb, Hb, J, ρ, r, N, k, e, rr, h1, h2⟩ := hh
  unfold dGTup at h1
  split at h1
  · rename_i ds ed
    obtain ⟨p, vs, ev, hp, rs, _⟩ := rr.cur.tup e.s ed
    refine ⟨p, vs, ev, SqT.of hp, ?_, J, ρ, ds, N, k.ext e, rs, h1, fun ρ' σ' J' H' k' e' f' o' n' => ?_⟩
    · rw [← rs.len]
      exact hgl _ _ _ h1
    · exact h2 ρ' σ' J' H' k' (e.trans e') (fun J0 H0 f => f' _ _ (f.ext e)) o' n'
  · exact h1.elim)⟩
theorem gl_nil : ∀ ds ρ N, dGNil ds ρ N → ds.length = 0 := fun ds ρ N h => by
  cases ds with
  | nil => rfl
  | cons d ds => exact h.elim
/-- two names | three names -/
theorem gl_two {i j : Nat} {m1 m2 : Bool} : ∀ ds ρ N, dGCons (dSt m1 i) (dGCons (dSt m2 j) dGNil) ds ρ N → ds.length = 2 := fun ds ρ N h => by
  match ds, h with
  | [_, _], _ => rfl
  | [], h => exact h.elim
  | [a], h => cases m1 <;> exact h.elim
  | a :: b :: c :: r, h => cases m1 <;> cases m2 <;> exact h.elim
theorem gl_three {i j l : Nat} {m1 m2 m3 : Bool} : ∀ ds ρ N, dGCons (dSt m1 i) (dGCons (dSt m2 j) (dGCons (dSt m3 l) dGNil)) ds ρ N → ds.length = 3 := fun ds ρ N h => by
  match ds, h with
  | [_, _, _], _ => rfl
  | [], h => exact h.elim
  | [a], h => cases m1 <;> exact h.elim
  | [a, b], h => cases m1 <;> cases m2 <;> exact h.elim
  | a :: b :: c :: d :: r, h => cases m1 <;> cases m2 <;> cases m3 <;> exact h.elim
end
/-- target = value -/
def dAsg (F : DE) (g : DG) (DD : DEnds) (ρ : Env) : Prop := F ρ fun r => g r ρ DD.nx
/-- name op= value -/
def dAug (i : Nat) (f : RD2) (F : DE) (DD : DEnds) (ρ : Env) : Prop := match ρ[i]? with
  | some (some (.im d)) => F ρ fun y => f (.im d) y fun z => dSt false i z ρ DD.nx
  | _ => False
section
variable {X : Cx} {e : Expr} {F : DE} {g : DG} {is : List Nat} {pos : Pos} {A : DA}
theorem ups_asg {tg : TG} (hg : ∀ v σ H Q, upg is g v σ H Q → tg v σ H Q) {E : Ends} {σ : L2.St} {H : Hp} (h : ups (dAsg F g) E σ H) : tAsg (up F) tg E σ H := by
  obtain ⟨J0, H0, J, ρ, DD, k, f, h1, t⟩ := h
  refine ⟨J, ρ, _, k, h1, fun r hr v J1 H1 e1 r1 => ?_⟩
  exact hg _ _ _ _ ⟨J, H, J1, ρ, r, _, k, e1, r1, hr, fun ρ' σ' J' H' k' e' f' o' n' => t.nx k' (f' _ _ f) n'⟩
theorem xs_asg {tg : Expr} (he : XE X e F) (hg : XG X tg is g) (hs : swapsWithSole [tg] e pos.line X.env = pure false := by rfl) (hw : swappedStores [tg] e X.env = pure none := by rfl)
    (h1 : (assignEach [tg] X.env).map (·.2) = [assign tg X.env] := by rfl) : XS X (.Assign [tg] e pos) (dAsg F g) := ps_weak (ps_asg he hg hs hw h1) fun E σ H h => ups_asg (fun _ _ _ _ q => q) h
theorem xs_set (m : Bool) {i : Nat} {x : Str} {pos' : Pos} (hN : X.N.Nodup) (hi : X.N[i]? = some x) (hx : Loc X.env.scope x) (he : XE X e F) (hs : swapsWith e (some (.Name x pos')) pos.line X.env = pure false := by rfl) (hf : X.fn x = true ∨ X.env.scope.names.lookup x = some .local := by first | exact .inl rfl | exact .inr rfl | assumption) :
    XS X (.Assign [.Name x pos'] e pos) (dAsg F (dSt m i)) := ps_weak (ps_set hN hi hx he hs hf) fun E σ H h => ups_asg (fun _ _ _ _ q => g_store q) h
theorem xs_aug {i : Nat} {x : Str} {op : Operator} {ti : TIp} {f : RD2} {pos' : Pos} (hN : X.N.Nodup) (hi : X.N[i]? = some x) (hx : Loc X.env.scope x) (he : XE X e F) (ho : PIp X op ti) (l : Lift2 ti f) (hf : X.fn x = true ∨ X.env.scope.names.lookup x = some .local := by first | exact .inl rfl | exact .inr rfl | assumption) :
    XS X (.AugAssign (.Name x pos') op e pos) (dAug i f F) := ps_weak (ps_aug hN hi hx he ho hf) fun E σ H h => by
  obtain ⟨J0, H0, J, ρ, DD, k, fr, h1, t⟩ := h
  unfold dAug at h1
  split at h1
  · rename_i d ed
    obtain ⟨v, hv, rv⟩ := k.im i d ed
    refine ⟨v, hv, J, ρ, _, k, h1, fun y hy w J1 H1 e1 r1 => ?_⟩
    refine l J1 H1 (.im d) y v w _ _ e1.s (show Rep J1 d v from rv.mono e1.j) r1.cur hy fun z hz u J2 H2 e2 r2 => ?_
    exact g_store ⟨J, H, J2, ρ, z, _, k, e1.trans e2, r2.back e1, hz, fun ρ' σ' J' H' k' e' f' o' n' => t.nx k' (f' _ _ fr) n'⟩
  · exact h1.elim
end
/-! ### several stores, the values made one behind the other -/
inductive Seqs : Hp → Hp → Hp → Hp → List R → List V → Prop where
  | nil {J H : Hp} : Same J H → Seqs J H J H [] []
  | cons {J H J1 H1 J' H' : Hp} {r : R} {v : V} {rs : List R} {vs : List V} : Ext J H J1 H1 → RepR J H J1 H1 r v → Seqs J1 H1 J' H' rs vs → Seqs J H J' H' (r :: rs) (v :: vs)
def notMu : R → Bool
  | .mu _ => false
  | _ => true
/-- an object is frozen ahead -/
theorem Ext.frz {J H J1 H1 : Hp} {p : Addr} {o : HO} (e : Ext J H J1 H1) (hj : J p = none) (hp : H p = some o) : Ext (upd J p o) H (upd J1 p o) H1 := ⟨fun b u z => by
    by_cases hb : b = p
    · subst hb; rw [upd_same] at z ⊢; exact z
    · rw [upd_ne hb] at z ⊢; exact e.j _ _ z, e.h, fun b u z => by
    by_cases hb : b = p
    · subst hb; rw [upd_same] at z; rw [e.h _ _ hp]; exact z
    · rw [upd_ne hb] at z; exact e.s _ _ z, fun b u z => by
    by_cases hb : b = p
    · subst hb; rw [upd_same] at z ⊢; exact .inl z
    · rw [upd_ne hb] at z ⊢; exact e.loc _ _ z⟩
theorem RepR.frz {J H J1 H1 : Hp} {p : Addr} {o : HO} {r : R} {v : V} (h : RepR J H J1 H1 r v) (e : Ext J H J1 H1) (hj : J p = none) (hp : H p = some o) (hr : notMu r = true) : RepR (upd J p o) H (upd J1 p o) H1 r v := by
  have hj1 : J1 p = none := e.out hj hp
  have s2 : Same J1 (upd J1 p o) := fun b u z => by rw [upd_ne (ne_of_none z hj1)]; exact z
  cases r with
  | im x => exact Rep.mono s2 h
  | nw x =>
    obtain ⟨p', o', a1, a2, a3, a4, a5⟩ := h
    refine ⟨p', o', a1, a2, ?_, a4, a5.mono s2⟩
    rw [upd_ne (fun z => by subst z; rw [hp] at a2; cases a2)]
    exact a3
  | mu x => exact absurd hr Bool.false_ne_true
theorem Seqs.frz {p : Addr} {o : HO} : ∀ {J H J' H' : Hp} {rs : List R} {vs : List V}, Seqs J H J' H' rs vs → J p = none → H p = some o → rs.all notMu = true → Seqs (upd J p o) H (upd J' p o) H' rs vs
  | _, _, _, _, _, _, .nil s, hj, hp, _ => .nil fun b u z => by
    by_cases hb : b = p
    · subst hb; rw [upd_same] at z; rw [hp]; exact z
    · rw [upd_ne hb] at z; exact s _ _ z
  | _, _, _, _, _, _, .cons e r t, hj, hp, hr => by
    simp only [List.all_cons, Bool.and_eq_true] at hr
    exact .cons (e.frz hj hp) (r.frz e hj hp hr.1) (Seqs.frz t (e.out hj hp) (e.h _ _ hp) hr.2)
def dStAll : List (Bool × Nat) → List R → Env → (Env → Prop) → Prop
  | [], [], ρ, N => N ρ
  | (m, i) :: ms, r :: rs, ρ, N => dSt m i r ρ fun ρ' => dStAll ms rs ρ' N
  | _, _, _, _ => False
def setAll : L2.St → List (Bool × Nat) → List V → L2.St
  | σ, (_, i) :: ms, v :: vs => setAll (σ.set i (some v)) ms vs
  | σ, _, _ => σ
theorem dStAll_len : ∀ {ms : List (Bool × Nat)} {rs : List R} {ρ : Env} {N : Env → Prop}, dStAll ms rs ρ N → ms.length = rs.length ∧ rs.all notMu = true
  | [], [], _, _, _ => ⟨rfl, rfl⟩
  | (m, i) :: ms, r :: rs, ρ, N, h => by
    have h : dSt m i r ρ fun ρ' => dStAll ms rs ρ' N := h
    have q : notMu r = true ∧ ∃ ρ', dStAll ms rs ρ' N := by
      cases m <;> cases r <;> first | exact h.elim | exact ⟨rfl, _, h⟩
    obtain ⟨q1, ρ', q2⟩ := q
    obtain ⟨a, b⟩ := dStAll_len q2
    exact ⟨by rw [List.length_cons, List.length_cons, a], by rw [List.all_cons, q1, b]; rfl⟩
  | [], _ :: _, _, _, h => h.elim
  | _ :: _, [], _, _, h => h.elim
theorem st_all {J0 H0 : Hp} {N : Env → Prop} : ∀ {J H J' H' : Hp} {rs : List R} {vs : List V} {ms : List (Bool × Nat)} {ρ : Env} {σ : L2.St}, Seqs J H J' H' rs vs → Ok J H ρ σ → Fr J0 H0 J H ρ σ → dStAll ms rs ρ N →
    ∃ ρ' J'', Ok J'' H' ρ' (setAll σ ms vs) ∧ Fr J0 H0 J'' H' ρ' (setAll σ ms vs) ∧ N ρ'
  | _, _, _, _, _, _, [], ρ, σ, .nil _, k, f, h => ⟨ρ, _, k, f, h⟩
  | _, _, _, _, _, _, _ :: _, _, _, .nil _, _, _, h => h.elim
  | _, _, _, _, _, _, [], _, _, .cons _ _ _, _, _, h => h.elim
  | J, H, J', H', _, _, (m, i) :: ms, ρ, σ, .cons (J1 := J1) (H1 := H1) (r := r) (v := v) (rs := rs) (vs := vs) e rr t, k, f, h => by
    have h : dSt m i r ρ fun ρ' => dStAll ms rs ρ' N := h
    show ∃ ρ' J'', Ok J'' H' ρ' (setAll (σ.set i (some v)) ms vs) ∧ Fr J0 H0 J'' H' ρ' (setAll (σ.set i (some v)) ms vs) ∧ N ρ'
    cases m with
    | false =>
      cases r with
      | mu d => exact h.elim
      | im d =>
        have h : dStAll ms rs (ρ.set i (some (.im d))) N := h
        exact st_all t ((k.ext e).setIm i rr) ((f.ext e).setIm i) h
      | nw d =>
        have h : dStAll ms rs (ρ.set i (some (.im d))) N := h
        obtain ⟨p, o, rfl, g1, g2, g3, g4⟩ := rr
        have s1 : Same J1 (upd J1 p o) := fun b u z => by rw [upd_ne (ne_of_none z g2)]; exact z
        have e1' : Ext J H (upd J1 p o) H1 := ⟨e.j.trans s1, e.h, fun b u z => by
          by_cases hb : b = p
          · subst hb; rw [upd_same] at z; rw [g3]; exact z
          · rw [upd_ne hb] at z; exact e.s _ _ z, fun b u z => by
          by_cases hb : b = p
          · subst hb; exact .inr g1
          · rw [upd_ne hb] at z; exact e.loc _ _ z⟩
        exact st_all (t.frz g2 g3 (dStAll_len h).2) ((k.ext e1').setIm i (g4.rep g2)) ((f.ext e1').setIm i) h
    | true =>
      cases r with
      | im d => exact h.elim
      | mu d => exact h.elim
      | nw d =>
        have h : dStAll ms rs (ρ.set i (some (.mu d))) N := h
        obtain ⟨p, o, rfl, g1, g2, g3, g4⟩ := rr
        refine st_all t ((k.ext e).setMu i g2 g3 g4 fun l x hx hl z => ?_) ((f.ext e).setMu i (f.h.free g1)) h
        obtain ⟨q', u, f1, f2, f3, f4⟩ := k.mu l x hx
        rw [z] at f1
        cases f1
        rw [g1] at f3
        cases f3
def dPar2 (m1 m2 : Bool) (i j : Nat) (F G : DE) (DD : DEnds) (ρ : Env) : Prop := F ρ fun r => G ρ fun s => dStAll [(m1, i), (m2, j)] [r, s] ρ DD.nx
def dPar3 (m1 m2 m3 : Bool) (i j l : Nat) (F G K : DE) (DD : DEnds) (ρ : Env) : Prop := F ρ fun r => G ρ fun s => K ρ fun t => dStAll [(m1, i), (m2, j), (m3, l)] [r, s, t] ρ DD.nx
section
variable {X : Cx} {pos : Pos} {F G K : DE}
theorem xs_par (m1 m2 : Bool) {i j : Nat} {x y : Str} {a b : Expr} {px py pt : Pos} {kt k2 pt2} (hc : X.calm = true) (hN : X.N.Nodup) (hi : X.N[i]? = some x) (hj : X.N[j]? = some y) (hij : i ≠ j)
    (hx : X.env.scope.names.lookup x = some .local) (hy : X.env.scope.names.lookup y = some .local) (ha : XE X a F) (hb : XE X b G)
    (hw : swappedStores [.Tuple [.Name x px, .Name y py] kt pt] (.Tuple [a, b] k2 pt2) X.env = pure (some [x, y]))
    (hs : swapsWithSole [.Tuple [.Name x px, .Name y py] kt pt] (.Tuple [a, b] k2 pt2) pos.line X.env = pure false := by rfl)
    (sa : starEach [a, b] X.env = (false, eval a X.env) :: starEach [b] X.env := by rfl) (sb : starEach [b] X.env = (false, eval b X.env) :: starEach [] X.env := by rfl) :
    XS X (.Assign [.Tuple [.Name x px, .Name y py] kt pt] (.Tuple [a, b] k2 pt2) pos) (dPar2 m1 m2 i j F G) := ps_weak (ps_par hc hN hi hj hij hx hy (pa_cons ha (pa_cons hb pa_nil sb) sa) hw hs) fun E σ H h => by
  obtain ⟨J0, H0, J, ρ, DD, k, f, h1, t⟩ := h
  refine ⟨J, ρ, _, k, h1, fun r hr v J1 H1 e1 r1 => ?_⟩
  refine ⟨J1, ρ, _, k.ext e1, hr, fun s hs w J2 H2 e2 r2 => ?_⟩
  obtain ⟨ρ', J'', k', f', n'⟩ := st_all (.cons e1 r1 (.cons e2 r2 (.nil e2.s))) k f hs
  exact ⟨v, w, rfl, t.nx k' f' n'⟩
theorem xs_par3 (m1 m2 m3 : Bool) {i j l : Nat} {x y z : Str} {a b c : Expr} {px py pz pt pos : Pos} {kt k2 pt2} (hc : X.calm = true) (hN : X.N.Nodup) (hi : X.N[i]? = some x) (hj : X.N[j]? = some y) (hl : X.N[l]? = some z) (hij : i ≠ j) (hil : i ≠ l) (hjl : j ≠ l)
    (hx : X.env.scope.names.lookup x = some .local) (hy : X.env.scope.names.lookup y = some .local) (hz : X.env.scope.names.lookup z = some .local) (ha : XE X a F) (hb : XE X b G) (hc' : XE X c K)
    (hw : swappedStores [.Tuple [.Name x px, .Name y py, .Name z pz] kt pt] (.Tuple [a, b, c] k2 pt2) X.env = pure (some [x, y, z]))
    (hs : swapsWithSole [.Tuple [.Name x px, .Name y py, .Name z pz] kt pt] (.Tuple [a, b, c] k2 pt2) pos.line X.env = pure false := by rfl)
    (sa : starEach [a, b, c] X.env = (false, eval a X.env) :: starEach [b, c] X.env := by rfl) (sb : starEach [b, c] X.env = (false, eval b X.env) :: starEach [c] X.env := by rfl) (sc : starEach [c] X.env = (false, eval c X.env) :: starEach [] X.env := by rfl) :
    XS X (.Assign [.Tuple [.Name x px, .Name y py, .Name z pz] kt pt] (.Tuple [a, b, c] k2 pt2) pos) (dPar3 m1 m2 m3 i j l F G K) := ps_weak (ps_par3 hc hN hi hj hl hij hil hjl hx hy hz (pa_cons ha (pa_cons hb (pa_cons hc' pa_nil sc) sb) sa) hw hs) fun E σ H h => by
  obtain ⟨J0, H0, J, ρ, DD, k, f, h1, t⟩ := h
  refine ⟨J, ρ, _, k, h1, fun r hr v J1 H1 e1 r1 => ?_⟩
  refine ⟨J1, ρ, _, k.ext e1, hr, fun s hs w J2 H2 e2 r2 => ?_⟩
  refine ⟨J2, ρ, _, (k.ext e1).ext e2, hs, fun u hu y J3 H3 e3 r3 => ?_⟩
  obtain ⟨ρ', J'', k', f', n'⟩ := st_all (.cons e1 r1 (.cons e2 r2 (.cons e3 r3 (.nil e3.s)))) k f hu
  exact ⟨v, w, y, rfl, t.nx k' f' n'⟩
end
end Dl
set_option Elab.async false
set_option linter.all false
set_option maxRecDepth 100000
set_option maxHeartbeats 4000000
/-! The data layer: objects of one's own changed, loops, comprehensions, calls. -/
namespace Dl
open PySem PySem.Spec PyProof.Rows L2

theorem line_le {n : Nat} (h : n ≤ 100000) : n ≤ sizeLine := Nat.le_trans h (by decide)
theorem line_lt {n : Nat} (h : n ≤ 100000) : n < sizeLine := Nat.lt_of_le_of_lt h (by decide)

/-! ### lists and dicts of one's own -/
/-- what goes into an object: it stays as it is -/
def keepR (r : R) (N : D → Prop) : Prop := match r with
  | .im d => N d
  | .nw d => N d
  | .mu _ => False
theorem keepR_ok {J H J1 H1 : Hp} {r : R} {v : V} {N : D → Prop} (e : Ext J H J1 H1) (h : RepR J H J1 H1 r v) (q : keepR r N) : ∃ d J2, Ext J H J2 H1 ∧ Same J1 J2 ∧ Rep J2 d v ∧ N d := by
  cases r with
  | im d => exact ⟨d, J1, e, .refl _, h, q⟩
  | nw d =>
    obtain ⟨J2, e2, s2, r2⟩ := RepR.freeze (d := d) e.s h e rfl
    exact ⟨d, J2, e2, s2, r2, q⟩
  | mu d => exact q.elim
/-- xs.append(e), xs the i-th slot -/
def dApp (i : Nat) (F : DE) (DD : DEnds) (ρ : Env) : Prop := match ρ[i]? with
  | some (some (.mu (.lst ds))) => F ρ fun r => keepR r fun d => ds.length ≤ 100000 ∧ DD.nx (ρ.set i (some (.mu (.lst (ds ++ [d])))))
  | _ => False
/-- xs[j] = e -/
def dSetL (i : Nat) (F G : DE) (DD : DEnds) (ρ : Env) : Prop := F ρ fun r => keepR r fun d => match ρ[i]? with
  | some (some (.mu (.lst ds))) => G ρ fun x => (match x.d with
    | .int k => (match ixN ds.length k with
      | some n => DD.nx (ρ.set i (some (.mu (.lst (ds.set n d)))))
      | none => False)
    | _ => False)
  | _ => False
def keyD : D → Option Key
  | .int i => some (.inl i)
  | .str z => some (.inr z)
  | _ => none
def keysD : List D → Option (List Key)
  | [] => some []
  | d :: ds => match keyD d, keysD ds with
    | some k, some ks => some (k :: ks)
    | _, _ => none
def putKs {κ : Type} [DecidableEq κ] (ks : List κ) (k : κ) : List κ := if (ks.any fun x => decide (x = k)) = true then ks else ks ++ [k]
def putDs {κ : Type} [DecidableEq κ] (ks : List κ) (ds : List D) (k : κ) (d : D) : List D := if (ks.any fun x => decide (x = k)) = true then (ks.zip ds).map (fun p => if p.1 = k then d else p.2) else ds ++ [d]
def getDs {κ : Type} [DecidableEq κ] (ks : List κ) (ds : List D) (k : κ) : Option D := ((ks.zip ds).find? fun p => decide (p.1 = k)).map (·.2)
section
variable {κ : Type} [DecidableEq κ] {J : Hp}
theorem any_fst {kvs : List (κ × V)} {k : κ} : (kvs.any fun kv => decide (kv.1 = k)) = ((kvs.map (·.1)).any fun x => decide (x = k)) := by
  rw [List.any_map]
  rfl
theorem put_fst (kvs : List (κ × V)) (k : κ) (v : V) : (putK kvs k v).map (·.1) = putKs (kvs.map (·.1)) k := by
  unfold putK putKs
  rw [any_fst]
  split
  · rw [List.map_map]
    refine List.map_congr_left fun p _ => ?_
    show (if p.1 = k then (p.1, v) else p).1 = p.1
    split <;> rfl
  · rw [List.map_append]
    rfl
theorem put_map {k : κ} {v : V} {d : D} (r : Rep J d v) : ∀ {kvs : List (κ × V)} {ds : List D}, Reps J ds (kvs.map (·.2)) → Reps J (((kvs.map (·.1)).zip ds).map (fun p => if p.1 = k then d else p.2)) ((kvs.map (fun kv => if kv.1 = k then (kv.1, v) else kv)).map (·.2))
  | [], ds, h => by
    have := h.len
    cases ds with
    | nil => exact Reps.nil
    | cons _ _ => simp at this
  | p :: kvs, [], h => by have := h.len; simp at this
  | p :: kvs, e :: ds, h => by
    obtain ⟨w, r', e1, h1, h2⟩ := h.uncons
    rw [List.map_cons] at e1
    injection e1 with e2 e3
    subst e2 e3
    refine Reps.cons ?_ (put_map r h2)
    show Rep J (if p.1 = k then d else e) (if p.1 = k then (p.1, v) else p).2
    split
    · exact r
    · exact h1
theorem put_snd {k : κ} {v : V} {d : D} (r : Rep J d v) : ∀ {kvs : List (κ × V)} {ds : List D}, Reps J ds (kvs.map (·.2)) → Reps J (putDs (kvs.map (·.1)) ds k d) ((putK kvs k v).map (·.2)) := by
  intro kvs ds h
  unfold putK putDs
  rw [any_fst]
  split
  · exact put_map r h
  · rw [List.map_append]
    exact h.append (.one r)
theorem get_of {k : κ} : ∀ {kvs : List (κ × V)} {ds : List D}, Reps J ds (kvs.map (·.2)) → match getDs (kvs.map (·.1)) ds k with
    | some d => ∃ v, valV kvs k = some v ∧ Rep J d v
    | none => valV kvs k = none := by
  intro kvs ds h
  induction kvs generalizing ds with
  | nil =>
    unfold getDs
    simp [valV]
  | cons p kvs ih =>
    cases ds with
    | nil => have := h.len; simp at this
    | cons e ds =>
      obtain ⟨w, r', e1, h1, h2⟩ := h.uncons
      rw [List.map_cons] at e1
      injection e1 with e2 e3
      subst e2 e3
      have ih := ih h2
      by_cases hk : p.1 = k
      · have e4 : getDs ((p :: kvs).map (·.1)) (e :: ds) k = some e := by
          unfold getDs
          simp [hk]
        rw [e4]
        exact ⟨p.2, valV_pos hk, h1⟩
      · have e4 : getDs ((p :: kvs).map (·.1)) (e :: ds) k = getDs (kvs.map (·.1)) ds k := by
          unfold getDs
          simp [hk]
        rw [e4, valV_neg hk]
        exact ih
theorem put_len {kvs : List (κ × V)} {ds : List D} (h : Reps J ds (kvs.map (·.2))) : kvs.length = ds.length := by
  have := h.len
  rw [List.length_map] at this
  exact this.symm
end
/-- d[k] = e, d the i-th slot -/
def dPut (i : Nat) (F G : DE) (DD : DEnds) (ρ : Env) : Prop := F ρ fun r => keepR r fun d => match ρ[i]? with
  | some (some (.mu (.dK ks ds))) => G ρ fun x => (match keyD x.d with
    | some k => ds.length ≤ 100000 ∧ DD.nx (ρ.set i (some (.mu (.dK (putKs ks k) (putDs ks ds k d)))))
    | none => False)
  | some (some (.mu (.dT ks ds))) => G ρ fun x => (match x.d with
    | .tup es => (match keysD es with
      | some k => ds.length ≤ 100000 ∧ DD.nx (ρ.set i (some (.mu (.dT (putKs ks k) (putDs ks ds k d)))))
      | none => False)
    | _ => False)
  | _ => False
theorem keyD_ok {J : Hp} {d : D} {k : Key} {v : V} (h : keyD d = some k) (r : Rep J d v) : v = kV k := by
  cases d <;> first
    | (cases h; done)
    | (simp only [keyD, Option.some.injEq] at h
       subst h
       simp only [Rep] at r
       exact r)
theorem keysD_ok {J : Hp} : ∀ {ds : List D} {ks : List Key} {vs : List V}, keysD ds = some ks → Reps J ds vs → vs = ks.map kV
  | [], ks, vs, h, r => by
    simp only [keysD, Option.some.injEq] at h
    subst h
    exact r.unnil
  | d :: ds, ks, vs, h, r => by
    unfold keysD at h
    obtain ⟨v, w, rfl, r1, r2⟩ := r.uncons
    split at h
    · rename_i k ks' e1 e2
      cases h
      rw [keyD_ok e1 r1, keysD_ok e2 r2]
      rfl
    · cases h
section
variable {X : Cx} {o e j : Expr} {F G : DE} {pos apos cpos p1 pos' : Pos}
theorem xs_append (i : Nat) {x : Str} (hN : X.N[i]? = some x := by rfl) (hv : Vis X.env.scope x := by first | exact Or.inl rfl | exact Or.inr (Or.inl rfl) | exact Or.inr (Or.inr rfl)) (he : XE X e F)
    (hb : PE X (.Call (.Attribute (.Name x p1) "append" apos) [e] [] cpos) (tBM X.K "list" rAppend (tVar i) (tCons (up F) tNil)))
    (hs : swapsWith (.Call (.Attribute (.Name x p1) "append" apos) [e] [] cpos) none pos.line X.env = pure false := by rfl) :
    XS X (.Expr (.Call (.Attribute (.Name x p1) "append" apos) [e] [] cpos) pos) (dApp i F) := ps_weak (ps_expr hb hs) fun E σ H h => by
  obtain ⟨J0, H0, J, ρ, DD, k, f, h1, t⟩ := h
  unfold dApp at h1
  split at h1
  · rename_i ds ed
    obtain ⟨p, u, e1, e2, e3, e4⟩ := k.mu i _ ed
    have e4' := e4
    cases u <;> first | exact e4'.elim | skip
    rename_i vs
    have e4 : Reps J ds vs := e4'
    refine ⟨.ref p, e1, .inl ⟨rfl, vs, SqL.of e3⟩, ?_⟩
    refine ⟨J, ρ, _, k, h1, fun r hr v J1 H1 x1 r1 => ?_⟩
    obtain ⟨d, J2, x2, s2, r2, hl, n2⟩ := keepR_ok x1 r1 hr
    have h3 := x2.h _ _ e3
    refine ⟨p, vs, v, rfl, rfl, h3, line_lt (by rw [← e4.len]; exact hl), ?_⟩
    exact t.nx ((k.ext x2).change ed e1 (show Ob J2 (.lst (vs ++ [v])) (.lst (ds ++ [d])) from (e4.mono x2.j).append (.one r2))) ((f.ext x2).change ed e1) n2
  · exact h1.elim
theorem xs_setL (i : Nat) {x : Str} (hN : X.N[i]? = some x := by rfl) (hv : Vis X.env.scope x := by first | exact Or.inl rfl | exact Or.inr (Or.inl rfl) | exact Or.inr (Or.inr rfl)) (he : XE X e F) (hj : XE X j G)
    (hb : PS X (.Assign [.Subscript (.Name x p1) j apos] e pos) (tAsg (up F) (gSub (tVar i) (up G) rSetL))) :
    XS X (.Assign [.Subscript (.Name x p1) j apos] e pos) (dSetL i F G) := ps_weak hb fun E σ H h => by
  obtain ⟨J0, H0, J, ρ, DD, k, f, h1, t⟩ := h
  refine ⟨J, ρ, _, k, h1, fun r hr v J1 H1 x1 r1 => ?_⟩
  obtain ⟨d, J2, x2, s2, r2, n2⟩ := keepR_ok x1 r1 hr
  split at n2
  · rename_i ds ed
    obtain ⟨p, u, e1, e2, e3, e4⟩ := k.mu i _ ed
    have e4' := e4
    cases u <;> first | exact e4'.elim | skip
    rename_i vs
    have e4 : Reps J ds vs := e4'
    refine ⟨.ref p, e1, J2, ρ, _, k.ext x2, n2, fun y hy w J3 H3 x3 r3 => ?_⟩
    split at hy
    · rename_i n en
      split at hy
      · rename_i m em
        have x23 := x2.trans x3
        refine ⟨p, vs, n, m, rfl, r3.cur.int en, x23.h _ _ e3, by rw [← e4.len]; exact em, ?_⟩
        exact t.nx ((k.ext x23).change ed e1 (show Ob J3 (.lst (vs.set m v)) (.lst (ds.set m d)) from Reps.set m (e4.mono x23.j) (r2.mono x3.j))) ((f.ext x23).change ed e1) hy
      · exact hy.elim
    · exact hy.elim
  · exact n2.elim
theorem xs_put (i : Nat) {x : Str} (hN : X.N[i]? = some x := by rfl) (hv : Vis X.env.scope x := by first | exact Or.inl rfl | exact Or.inr (Or.inl rfl) | exact Or.inr (Or.inr rfl))
    (hb : PS X (.Assign [.Subscript (.Name x p1) j apos] e pos) (sDPut (tVar i) (up G) (up F))) :
    XS X (.Assign [.Subscript (.Name x p1) j apos] e pos) (dPut i F G) := ps_weak hb fun E σ H h => by
  obtain ⟨J0, H0, J, ρ, DD, k, f, h1, t⟩ := h
  refine ⟨J, ρ, _, k, h1, fun r hr v J1 H1 x1 r1 => ?_⟩
  obtain ⟨d, J2, x2, s2, r2, n2⟩ := keepR_ok x1 r1 hr
  split at n2
  · rename_i ks ds ed
    obtain ⟨p, u, e1, e2, e3, e4⟩ := k.mu i _ ed
    have e4' := e4
    cases u <;> first | exact e4'.elim | skip
    rename_i kvs
    obtain ⟨e4, e5⟩ := e4'
    refine ⟨.ref p, e1, J2, ρ, _, k.ext x2, n2, fun y hy w J3 H3 x3 r3 => ?_⟩
    split at hy
    · rename_i n en
      have x23 := x2.trans x3
      have ew : w = kV n := by
        cases hd : y.d <;> rw [hd] at en <;> first | (cases en; done) | skip
        · cases en; exact r3.cur.int hd
        · cases en; exact r3.cur.str hd
      subst ew
      refine ⟨p, upd H3 p (.dK (putK kvs n v)), rfl, DPut.k (x23.h _ _ e3) (line_lt (by rw [put_len e5]; exact hy.1)), ?_⟩
      · refine t.nx ((k.ext x23).change ed e1 (d' := .dK (putKs ks n) (putDs ks ds n d)) ?_) ((f.ext x23).change ed e1) hy.2
        subst e4
        exact ⟨put_fst _ _ _, put_snd (r2.mono x3.j) (e5.mono x23.j)⟩
    · exact hy.elim
  · rename_i ks ds ed
    obtain ⟨p, u, e1, e2, e3, e4⟩ := k.mu i _ ed
    have e4' := e4
    cases u <;> first | exact e4'.elim | skip
    rename_i kvs
    obtain ⟨e4, e5⟩ := e4'
    refine ⟨.ref p, e1, J2, ρ, _, k.ext x2, n2, fun y hy w J3 H3 x3 r3 => ?_⟩
    split at hy
    · rename_i es ees
      split at hy
      · rename_i n en
        have x23 := x2.trans x3
        obtain ⟨q, ws, eq, hq, rq, _⟩ := r3.cur.tup x3.s ees
        have ew := keysD_ok en rq
        subst eq
        refine ⟨p, upd H3 p (.dT (putK kvs n v)), rfl, DPut.t (x23.h _ _ e3) (by rw [hq, ew]) (line_lt (by rw [put_len e5]; exact hy.1)), ?_⟩
        · refine t.nx ((k.ext x23).change ed e1 (d' := .dT (putKs ks n) (putDs ks ds n d)) ?_) ((f.ext x23).change ed e1) hy.2
          subst e4
          exact ⟨put_fst _ _ _, put_snd (r2.mono x3.j) (e5.mono x23.j)⟩
      · exact hy.elim
    · exact hy.elim
  · exact n2.elim
end
end Dl
set_option Elab.async false
set_option linter.all false
set_option maxRecDepth 100000
set_option maxHeartbeats 4000000
/-! The data layer: loops, comprehensions, calls, defs. -/
namespace Dl
open PySem PySem.Spec PyProof.Rows L2

/-! ### what is walked -/
structure WalkD (J : Hp) (ds : List D) (I : It) : Prop where
  ex : ∃ (G : Hp → Prop) (Y : Nat → Hp → V → Hp → Prop), L2.Walk I ds.length G Y ∧ (∀ H', Same J H' → G H') ∧
    ∀ (i : Nat) (J' H' : Hp) (x : V) (H2 : Hp) (d : D), ds[i]? = some d → Same J J' → Same J' H' → Y i H' x H2 → ∃ J2, Ext J' H' J2 H2 ∧ Rep J2 d x
abbrev DI := Env → (List D → Prop) → Prop
def upI (I : DI) : TI := fun σ H R => ∃ J ρ P, Ok J H ρ σ ∧ I ρ P ∧ ∀ ds, P ds → ∀ It J' H', Ext J H J' H' → WalkD J' ds It → R It H'
abbrev XI (X : Cx) (tg iter : Expr) (I : DI) : Prop := PI X tg iter (upI I)
theorem pi_weak {X : Cx} {tg it : Expr} {t t' : TI} (h : PI X tg it t) (k : ∀ σ H Q, t' σ H Q → t σ H Q) : PI X tg it t' := ⟨fun pins s σ H Q I q => h.run pins s σ H Q I (k σ H Q q)⟩
theorem rep_pair {J H H2 : Hp} {x y : V} {d e : D} {T : Addr} (s : Same J H) (hT : H T = none) (h2 : H2 = upd H T (.tup [x, y])) (rx : Rep J d x) (ry : Rep J e y) : ∃ J2, Ext J H J2 H2 ∧ Rep J2 (.tup [d, e]) (.ref T) := by
  subst h2
  exact ⟨upd J T (.tup [x, y]), Ext.lay s hT, lay_tup s hT (.cons rx (.one ry))⟩
/-- a list, a tuple -/
def dIL (F : DE) (ρ : Env) (P : List D → Prop) : Prop := F ρ fun r => match r with
  | .im (.lst ds) => P ds
  | .nw (.lst ds) => P ds
  | _ => False
def dIT (F : DE) (ρ : Env) (P : List D → Prop) : Prop := F ρ fun r => match r with
  | .im (.tup ds) => P ds
  | _ => False
/-- a text, sign by sign -/
def signs (z : Str) : List D := z.cps.toList.map fun c => D.str ⟨#[c]⟩
def dIS (F : DE) (ρ : Env) (P : List D → Prop) : Prop := F ρ fun r => match r.d with
  | .str z => P (signs z)
  | _ => False
def rangeD (lo : Int) (n : Nat) : List D := (List.range n).map fun (i : Nat) => D.int (lo + (i : Int))
def rangeC (lo c : Int) (n : Nat) : List D := (List.range n).map fun (i : Nat) => D.int (lo + (i : Int) * c)
def dIR1 (F : DE) (ρ : Env) (P : List D → Prop) : Prop := F ρ fun r => match r.d with
  | .int n => -1000000 ≤ n ∧ n ≤ 1000000 ∧ P (rangeD 0 n.toNat)
  | _ => False
def dIR2 (F G : DE) (ρ : Env) (P : List D → Prop) : Prop := F ρ fun r => G ρ fun s => match r.d, s.d with
  | .int m, .int n => -1000000 ≤ m ∧ m ≤ 1000000 ∧ -1000000 ≤ n ∧ n ≤ 1000000 ∧ P (rangeD m (n - m).toNat)
  | _, _ => False
/-- reversed(range(n)) -/
def dIRR (F : DE) (ρ : Env) (P : List D → Prop) : Prop := F ρ fun r => match r.d with
  | .int n => -1000000 ≤ n ∧ n ≤ 1000000 ∧ P (rangeC (n.toNat - 1) (-1) n.toNat)
  | _ => False
def pairsD (ds es : List D) : List D := (ds.zip es).map fun p => D.tup [p.1, p.2]
def enumD (ds : List D) : List D := ds.zipIdx.map fun p => D.tup [.int (p.2 : Nat), p.1]
def dIE (F : DE) (ρ : Env) (P : List D → Prop) : Prop := F ρ fun r => match r with
  | .im (.lst ds) => P (enumD ds)
  | .nw (.lst ds) => P (enumD ds)
  | _ => False
def dIZ (F G : DE) (ρ : Env) (P : List D → Prop) : Prop := F ρ fun r => match r with
  | .im (.lst ds) => G ρ fun s => (match s with
    | .im (.lst es) => P (pairsD ds es)
    | _ => False)
  | _ => False
section
variable {X : Cx} {tg e e2 : Expr} {F G : DE} {p pos tpos : Pos} {elts : List Expr} {kk : Nat}
theorem walkD_list {J : Hp} {K : PySem.W.Frag} {a : Addr} {vs : List V} {ds : List D} (hp : J a = some (.lst vs)) (rs : Reps J ds vs) : WalkD J ds (Itl K a) :=
  ⟨fun H => SqL K H a vs, YAt vs, by rw [rs.len]; exact walk_list, fun H' s => SqL.of (s _ _ hp), fun i J' H' x H2 d hd s s' y => by
    obtain ⟨rfl, hx⟩ := y
    obtain ⟨v, hv, rv⟩ := rs.get hd
    rw [hx] at hv
    cases hv
    exact ⟨J', .refl s', rv.mono s⟩⟩
theorem walkD_tup {J : Hp} {K : PySem.W.Frag} {a : Addr} {vs : List V} {ds : List D} (hp : J a = some (.tup vs)) (rs : Reps J ds vs) : WalkD J ds (Itt K a) :=
  ⟨fun H => SqT K H a vs, YAt vs, by rw [rs.len]; exact walk_tup, fun H' s => SqT.of (s _ _ hp), fun i J' H' x H2 d hd s s' y => by
    obtain ⟨rfl, hx⟩ := y
    obtain ⟨v, hv, rv⟩ := rs.get hd
    rw [hx] at hv
    cases hv
    exact ⟨J', .refl s', rv.mono s⟩⟩
theorem signs_len (z : Str) : (signs z).length = z.cps.size := by simp [signs]
theorem walkD_str {J : Hp} {z : Str} : WalkD J (signs z) (Its z) :=
  ⟨_, _, by rw [signs_len]; exact walk_str, fun _ _ => True.intro, fun i J' H' x H2 d hd s s' y => by
    obtain ⟨rfl, c, hc, rfl⟩ := y
    refine ⟨J', .refl s', ?_⟩
    unfold signs at hd
    rw [List.getElem?_map, Array.getElem?_toList, hc] at hd
    cases hd
    simp only [Rep]⟩
theorem rangeD_len (lo : Int) (n : Nat) : (rangeD lo n).length = n := by simp [rangeD]
theorem rangeC_len (lo c : Int) (n : Nat) : (rangeC lo c n).length = n := by simp [rangeC]
theorem walkD_range {J : Hp} {lo : Int} {n : Nat} : WalkD J (rangeD lo n) (Itr lo n) :=
  ⟨_, _, by rw [rangeD_len]; exact walk_range, fun _ _ => True.intro, fun i J' H' x H2 d hd s s' y => by
    obtain ⟨rfl, rfl⟩ := y
    refine ⟨J', .refl s', ?_⟩
    have hi : i < n := by
      have := (List.getElem?_eq_some_iff.mp hd).1
      rwa [rangeD_len] at this
    unfold rangeD at hd
    rw [List.getElem?_map, List.getElem?_range hi] at hd
    cases hd
    simp only [Rep]⟩
theorem walkD_rangeC {J : Hp} {lo c : Int} {n : Nat} : WalkD J (rangeC lo c n) (Itc lo c n) :=
  ⟨_, _, by rw [rangeC_len]; exact walk_rangeC, fun _ _ => True.intro, fun i J' H' x H2 d hd s s' y => by
    obtain ⟨rfl, rfl⟩ := y
    refine ⟨J', .refl s', ?_⟩
    have hi : i < n := by
      have := (List.getElem?_eq_some_iff.mp hd).1
      rwa [rangeC_len] at this
    unfold rangeC at hd
    rw [List.getElem?_map, List.getElem?_range hi] at hd
    cases hd
    simp only [Rep]⟩
theorem pairsD_len (ds es : List D) : (pairsD ds es).length = min ds.length es.length := by simp [pairsD]
theorem pairsD_get {ds es : List D} {i : Nat} {d : D} (h : (pairsD ds es)[i]? = some d) : ∃ a b, ds[i]? = some a ∧ es[i]? = some b ∧ d = .tup [a, b] := by
  unfold pairsD at h
  rw [List.getElem?_map] at h
  cases q : (ds.zip es)[i]? with
  | none => rw [q] at h; cases h
  | some p =>
    rw [q] at h
    obtain ⟨h1, h2⟩ := List.getElem?_zip_eq_some.mp q
    exact ⟨p.1, p.2, h1, h2, (Option.some.inj h).symm⟩
theorem walkD_zip {J : Hp} {K : PySem.W.Frag} {a b : Addr} {vs ws : List V} {ds es : List D} (hp : J a = some (.lst vs)) (hq : J b = some (.lst ws)) (rs : Reps J ds vs) (rt : Reps J es ws) : WalkD J (pairsD ds es) (Itz K a b) :=
  ⟨_, _, walk_zip (K := K) (a := a) (b := b) (xs := vs) (ys := ws) (n := (pairsD ds es).length) (by rw [pairsD_len, rs.len, rt.len]), fun H' s => ⟨SqL.of (s _ _ hp), SqL.of (s _ _ hq)⟩, fun i J' H' x H2 d hd s s' y => by
    obtain ⟨T, v, w, rfl, hT, h2, e1, e2⟩ := y
    obtain ⟨a', b', g1, g2, rfl⟩ := pairsD_get hd
    obtain ⟨v', f1, r1⟩ := rs.get g1
    obtain ⟨w', f2, r2⟩ := rt.get g2
    have g1 := e1.symm.trans f1
    have g2 := e2.symm.trans f2
    cases g1
    cases g2
    exact rep_pair s' hT h2 (r1.mono s) (r2.mono s)⟩
theorem enumD_len (ds : List D) : (enumD ds).length = ds.length := by simp [enumD]
theorem enumD_get {ds : List D} {i : Nat} {d : D} (h : (enumD ds)[i]? = some d) : ∃ a, ds[i]? = some a ∧ d = .tup [.int (i : Nat), a] := by
  unfold enumD at h
  rw [List.getElem?_map, List.getElem?_zipIdx] at h
  cases q : ds[i]? with
  | none => rw [q] at h; cases h
  | some a =>
    rw [q] at h
    refine ⟨a, rfl, ?_⟩
    have e := (Option.some.inj h).symm
    rw [e]
    simp
theorem walkD_enum {J : Hp} {K : PySem.W.Frag} {a : Addr} {vs : List V} {ds : List D} (hp : J a = some (.lst vs)) (rs : Reps J ds vs) : WalkD J (enumD ds) (Ite K a) :=
  ⟨_, _, by rw [enumD_len, rs.len]; exact walk_enum, fun H' s => SqL.of (s _ _ hp), fun i J' H' x H2 d hd s s' y => by
    obtain ⟨T, v, w, rfl, hT, h2, e1, e2⟩ := y
    obtain ⟨a', g1, rfl⟩ := enumD_get hd
    obtain ⟨v', f1, r1⟩ := rs.get g1
    have g2 := e2.symm.trans f1
    cases g2
    cases e1
    exact rep_pair s' hT h2 (by simp only [Rep]) (r1.mono s)⟩
/-- a list result, lasting -/
theorem lst_of {J H J1 H1 : Hp} {r : R} {v : V} {ds : List D} (e : Ext J H J1 H1) (h : RepR J H J1 H1 r v) (hr : r = .im (.lst ds) ∨ r = .nw (.lst ds)) : ∃ p vs J2, Ext J H J2 H1 ∧ Same J1 J2 ∧ v = .ref p ∧ J2 p = some (.lst vs) ∧ Reps J2 ds vs := by
  rcases hr with rfl | rfl
  · have h : Rep J1 (.lst ds) v := h
    simp only [Rep] at h
    obtain ⟨p, vs, h1, h2, h3⟩ := h
    exact ⟨p, vs, J1, e, .refl _, h1, h2, h3⟩
  · obtain ⟨J2, e2, s2, r2⟩ := RepR.freeze (d := D.non) e.s h e rfl
    have r2 : Rep J2 (.lst ds) v := r2
    simp only [Rep] at r2
    obtain ⟨p, vs, h1, h2, h3⟩ := r2
    exact ⟨p, vs, J2, e2, s2, h1, h2, h3⟩
theorem lst_case {r : R} {P : List D → Prop} (h : match r with
  | .im (.lst ds) => P ds
  | .nw (.lst ds) => P ds
  | _ => False) : ∃ ds, (r = .im (.lst ds) ∨ r = .nw (.lst ds)) ∧ P ds := by
  split at h
  · exact ⟨_, .inl rfl, h⟩
  · exact ⟨_, .inr rfl, h⟩
  · exact h.elim
theorem xi_list (h : XE X e F) : XI X tg e (dIL F) := pi_weak (pi_list h) fun σ H Q h => by
  obtain ⟨J, ρ, P, k, h1, h2⟩ := h
  refine ⟨J, ρ, _, k, h1, fun r hr v J1 H1 e1 r1 => ?_⟩
  obtain ⟨ds, hc, hP⟩ := lst_case (r := r) hr
  obtain ⟨p, vs, J2, e2, _, rfl, hp, rs⟩ := lst_of e1 r1 hc
  exact ⟨p, rfl, ⟨vs, SqL.of (e2.s _ _ hp)⟩, h2 ds hP _ J2 H1 e2 (walkD_list hp rs)⟩
theorem xi_tup (h : XE X e F) : XI X tg e (dIT F) := pi_weak (pi_tup h) fun σ H Q h => by
  obtain ⟨J, ρ, P, k, h1, h2⟩ := h
  refine ⟨J, ρ, _, k, h1, fun r hr v J1 H1 e1 r1 => ?_⟩
  split at hr
  · have r1 : Rep J1 (.tup _) v := r1
    simp only [Rep] at r1
    obtain ⟨p, vs, rfl, hp, rs⟩ := r1
    exact ⟨p, rfl, ⟨vs, SqT.of (e1.s _ _ hp)⟩, h2 _ hr _ J1 H1 e1 (walkD_tup hp rs)⟩
  · exact hr.elim
theorem xi_str (h : XE X e F) : XI X tg e (dIS F) := pi_weak (pi_str h) fun σ H Q h => by
  obtain ⟨J, ρ, P, k, h1, h2⟩ := h
  refine ⟨J, ρ, _, k, h1, fun r hr v J1 H1 e1 r1 => ?_⟩
  split at hr
  · rename_i z ez
    exact ⟨z, r1.cur.str ez, h2 _ hr _ J1 H1 e1 walkD_str⟩
  · exact hr.elim
theorem xi_range1 (hg : Gl X "range") (hm : X.mg "range" = none) (ha : XE X e F) (hs : starEach [e] X.env = [(false, eval e X.env)] := by rfl) : XI X tg (.Call (.Name "range" p) [e] [] pos) (dIR1 F) := pi_weak (pi_range1 hg hm (pa_cons ha pa_nil hs) hs) fun σ H Q h => by
  obtain ⟨J, ρ, P, k, h1, h2⟩ := h
  refine ⟨J, ρ, _, k, h1, fun r hr v J1 H1 e1 r1 => ?_⟩
  split at hr
  · rename_i n en
    obtain ⟨a1, a2, a3⟩ := hr
    exact ⟨n, by rw [r1.cur.int en], by omega, by omega, h2 _ a3 _ J1 H1 e1 walkD_range⟩
  · exact hr.elim
theorem xi_range2 (hg : Gl X "range") (hm : X.mg "range" = none) (ha : XE X e F) (hb : XE X e2 G) (hs : starEach [e, e2] X.env = [(false, eval e X.env), (false, eval e2 X.env)] := by rfl) (hs2 : starEach [e2] X.env = [(false, eval e2 X.env)] := by rfl) :
    XI X tg (.Call (.Name "range" p) [e, e2] [] pos) (dIR2 F G) := pi_weak (pi_range2 hg hm (pa_cons ha (pa_cons hb pa_nil hs2) (hs.trans (by rw [hs2]))) hs hs2) fun σ H Q h => by
  obtain ⟨J, ρ, P, k, h1, h2⟩ := h
  refine ⟨J, ρ, _, k, h1, fun r hr v J1 H1 e1 r1 => ⟨J1, ρ, _, k.ext e1, hr, fun s hs w J2 H2 e2 r2 => ?_⟩⟩
  split at hs
  · rename_i m n em en
    obtain ⟨a1, a2, a3, a4, a5⟩ := hs
    exact ⟨m, n, by rw [r1.cur.int em, r2.cur.int en], ⟨by omega, by omega, by omega, by omega⟩, h2 _ a5 _ J2 H2 (e1.trans e2) walkD_range⟩
  · exact hs.elim
theorem xi_revR {p2 pos2 : Pos} (hg2 : Gl X "reversed") (hm2 : X.mg "reversed" = none) (hg : Gl X "range") (hm : X.mg "range" = none) (ha : XE X e F) (hs : starEach [e] X.env = (false, eval e X.env) :: starEach [] X.env := by rfl)
    (hs2 : starEach [.Call (.Name "range" p) [e] [] pos] X.env = (false, eval (.Call (.Name "range" p) [e] [] pos) X.env) :: starEach [] X.env := by rfl) :
    XI X tg (.Call (.Name "reversed" p2) [.Call (.Name "range" p) [e] [] pos] [] pos2) (dIRR F) := pi_weak (pi_revR hg2 hm2 (prg_1 hg hm ha hs) hs2) fun σ H Q h => by
  obtain ⟨J, ρ, P, k, h1, h2⟩ := h
  refine ⟨J, ρ, _, k, h1, fun r hr v J1 H1 e1 r1 => ?_⟩
  split at hr
  · rename_i n en
    obtain ⟨a1, a2, a3⟩ := hr
    refine ⟨n, r1.cur.int en, by omega, by omega, by omega, by omega, ?_⟩
    have e3 : (0 : Int) + (((n - 0).toNat : Nat) : Int) - 1 = ((n.toNat : Nat) : Int) - 1 := by rw [Int.sub_zero, Int.zero_add]
    rw [e3, Int.sub_zero]
    exact h2 _ a3 _ J1 H1 e1 walkD_rangeC
  · exact hr.elim
theorem xi_enum (hg : Gl X "enumerate") (hm : X.mg "enumerate" = none) (ha : XE X e F) (hs : starEach [e] X.env = [(false, eval e X.env)] := by rfl) : XI X (.Tuple elts kk tpos) (.Call (.Name "enumerate" p) [e] [] pos) (dIE F) := pi_weak (pi_enum hg hm (pa_cons ha pa_nil hs) hs) fun σ H Q h => by
  obtain ⟨J, ρ, P, k, h1, h2⟩ := h
  refine ⟨J, ρ, _, k, h1, fun r hr v J1 H1 e1 r1 => ?_⟩
  obtain ⟨ds, hc, hP⟩ := lst_case (r := r) (P := fun ds => P (enumD ds)) hr
  obtain ⟨q, vs, J2, e2, _, rfl, hp, rs⟩ := lst_of e1 r1 hc
  exact ⟨q, vs, rfl, SqL.of (e2.s _ _ hp), h2 _ hP _ J2 H1 e2 (walkD_enum hp rs)⟩
theorem xi_zip (hg : Gl X "zip") (hm : X.mg "zip" = none) (ha : XE X e F) (hb : XE X e2 G) (hs : starEach [e, e2] X.env = (false, eval e X.env) :: starEach [e2] X.env := by rfl) (hs2 : starEach [e2] X.env = (false, eval e2 X.env) :: starEach [] X.env := by rfl) (hpl : (backTo pos (starEach [e2] X.env)).any (·.1) = false := by rfl) :
    XI X (.Tuple elts kk tpos) (.Call (.Name "zip" p) [e, e2] [] pos) (dIZ F G) := pi_weak (pi_zip hg hm (pa_cons ha (pa_cons hb pa_nil hs2) hs) hs hpl) fun σ H Q h => by
  obtain ⟨J, ρ, P, k, h1, h2⟩ := h
  refine ⟨J, ρ, _, k, h1, fun r hr v J1 H1 e1 r1 => ?_⟩
  split at hr
  · have r1 : Rep J1 (.lst _) v := r1
    simp only [Rep] at r1
    obtain ⟨p, vs, rfl, hp, rs⟩ := r1
    refine ⟨J1, ρ, _, k.ext e1, hr, fun s hs w J2 H2 e2 r2 => ?_⟩
    split at hs
    · have r2 : Rep J2 (.lst _) w := r2
      simp only [Rep] at r2
      obtain ⟨q, ws, rfl, hq, rt⟩ := r2
      exact ⟨p, q, vs, ws, rfl, SqL.of (e2.s _ _ (e2.j _ _ hp)), SqL.of (e2.s _ _ hq), h2 _ hs _ J2 H2 (e1.trans e2) (walkD_zip (e2.j _ _ hp) hq (rs.mono e2.j) rt)⟩
    · exact hs.elim
  · exact hr.elim
end

/-! ### for, while -/
def forRun (g : DG) (T : DTS) (DD : DEnds) : List D → Env → Prop
  | [], ρ => DD.nx ρ
  | d :: ds, ρ => g (.im d) ρ fun ρ' => T { nx := forRun g T DD ds, rt := DD.rt, bk := DD.nx, ct := forRun g T DD ds } ρ'
def dFor (I : DI) (g : DG) (T : DTS) (DD : DEnds) (ρ : Env) : Prop := I ρ fun ds => forRun g T DD ds ρ
def dWhile (C : DT) (T : DTS) (DD : DEnds) (ρ : Env) : Prop := ∃ (W : Nat → Env → Prop) (m : Nat), W m ρ ∧ ∀ m ρ, W m ρ → C ρ fun b => match b with
  | true => T { nx := fun ρ' => ∃ m', m' < m ∧ W m' ρ', rt := DD.rt, bk := DD.nx, ct := fun ρ' => ∃ m', m' < m ∧ W m' ρ' } ρ
  | false => DD.nx ρ
theorem xs_for {X : Cx} {tg iter : Expr} {body : List Stmt} {I : DI} {is : List Nat} {g : DG} {T : DTS} {pos : Pos} (hp : PassesOwn (model X.prog X.w) X.A X.env X.xe) (hc : X.calm = true) (hi : XI X tg iter I) (hg : XG X tg is g) (hb : XSs X body T)
    (hs : ∀ x, foldedSetIterable iter X.env x = pure x := by intro _; rfl) : XS X (.For tg iter body [] pos) (dFor I g T) := ps_weak (ps_for hp hc hi hg hb hs) fun E σ H h => by
  obtain ⟨J0, H0, J, ρ, DD, k, f, h1, t⟩ := h
  refine ⟨J, ρ, _, k, h1, fun ds hds It J1 H1 e1 w => ?_⟩
  obtain ⟨G, Y, wk, hG, hY⟩ := w.ex
  have f1 := f.ext e1
  refine for_it wk (fun i σ' H' => ∃ J' ρ', Ok J' H' ρ' σ' ∧ Fr J1 H0 J' H' ρ' σ' ∧ forRun g T DD (ds.drop i) ρ') ⟨J1, ρ, k.ext e1, f1.renew, hds⟩ (fun i σ' H' _ ⟨J', ρ', k', f', _⟩ => hG H' (f'.j.trans k'.s)) (fun i x σ' H' H2 hi ⟨J', ρ', k', f', r'⟩ y => ?_) (fun σ' H' ⟨J', ρ', k', f', r'⟩ => ?_)
  · have hd : ds[i]? = some ds[i] := List.getElem?_eq_getElem hi
    obtain ⟨J2, e2, rx⟩ := hY i J' H' x H2 ds[i] hd f'.j k'.s y
    rw [List.drop_eq_getElem_cons hi] at r'
    refine ⟨J2, H2, J2, ρ', .im ds[i], _, k'.ext e2, .refl e2.s, rx, r', fun ρ2 σ2 J3 H3 k3 e3 f3 o3 n3 => ?_⟩
    have g3 : Fr J1 H0 J3 H3 ρ2 σ2 := f3 _ _ (f'.ext e2)
    refine ⟨J1, H0, J3, ρ2, _, k3, g3, n3, ⟨fun k4 f4 n4 => ⟨_, _, k4, f4, n4⟩, fun k4 f4 n4 => t.nx k4 (f1.under f4) n4, fun k4 f4 n4 => ⟨_, _, k4, f4, n4⟩, fun e4 r4 n4 => t.rt (f1.extUnder e4) r4 n4⟩⟩
  · have e0 : ds.drop ds.length = [] := List.drop_length
    rw [e0] at r'
    exact t.nx k' (f1.under f') r'
theorem xs_while {X : Cx} {c : Expr} {body : List Stmt} {C : DT} {T : DTS} {pos : Pos} (hp : PassesOwn (model X.prog X.w) X.A X.env X.xe) (hc : XT X c C) (hb : XSs X body T) : XS X (.While c body [] pos) (dWhile C T) := ps_weak (ps_while hp hc hb) fun E σ H h => by
  obtain ⟨J0, H0, J, ρ, DD, k, f, ⟨W, m0, w0, step⟩, t⟩ := h
  refine ⟨fun m σ' H' => ∃ J' ρ', Ok J' H' ρ' σ' ∧ Fr J0 H0 J' H' ρ' σ' ∧ W m ρ', ⟨m0, J, ρ, k, f, w0⟩, fun m σ' H' ⟨J', ρ', k', f', w'⟩ => ?_⟩
  refine ⟨J', ρ', _, k', step m ρ' w', fun b hb J2 H2 e2 => ?_⟩
  cases b with
  | true =>
    refine iteT ⟨_, fun _ _ q => q, J0, H0, J2, ρ', _, k'.ext e2, f'.ext e2, hb, ⟨fun k4 f4 ⟨m', l, n4⟩ => ⟨m', l, _, _, k4, f4, n4⟩, fun k4 f4 n4 => t.nx k4 f4 n4, fun k4 f4 ⟨m', l, n4⟩ => ⟨m', l, _, _, k4, f4, n4⟩, fun e4 r4 n4 => t.rt e4 r4 n4⟩⟩
  | false => exact iteF (t.nx (k'.ext e2) (f'.ext e2) hb)

/-! ### list comprehensions -/
def lcRun (g : DG) (T : DT) (F : DE) (ρ : Env) : List D → List D → (List D → Prop) → Prop
  | [], acc, P => P acc
  | d :: ds, acc, P => g (.im d) ρ fun ρ' => T ρ' fun b => match b with
    | true => F ρ' fun r => keepR r fun y => lcRun g T F ρ ds (acc ++ [y]) P
    | false => lcRun g T F ρ ds acc P
def wipeE (ρ : Env) : List Nat → Env
  | [] => ρ
  | v :: vs => (wipeE ρ vs).set v none
def dLc (I : DI) (g : DG) (T : DT) (F : DE) (vs : List Nat) (ρ : Env) (P : R → Prop) : Prop := I ρ fun ds => ds.length ≤ 100000 ∧ lcRun g T F (wipeE ρ vs) ds [] fun out => P (.nw (.lst out))
def dYes (_ : Env) (P : Bool → Prop) : Prop := P true
abbrev XTs (X : Cx) (ifs : List Expr) (T : DT) : Prop := PTs X ifs (upT T)
theorem pts_weak {X : Cx} {es : List Expr} {t t' : TT} (h : PTs X es t) (k : ∀ σ H Q, t' σ H Q → t σ H Q) : PTs X es t' := ⟨fun pins s σ H Q I q => h.run pins s σ H Q I (k σ H Q q)⟩
theorem xts_nil {X : Cx} : XTs X [] dYes := pts_weak pts_nil fun σ H Q h => by
  obtain ⟨J, ρ, P, k, h1, h2⟩ := h
  exact h2 true h1 J H (.refl k.s)
theorem xts_one {X : Cx} {c : Expr} {T : DT} (h : XT X c T) : XTs X [c] T := pts_one h
/-- a slot is forgotten -/
theorem Ok.forget {J H : Hp} {ρ : Env} {σ : L2.St} (k : Ok J H ρ σ) (i : Nat) : Ok J H (ρ.set i none) (σ.set i none) := by
  have off : ∀ (j : Nat) (l : L), (ρ.set i none)[j]? = some (some l) → i ≠ j ∧ ρ[j]? = some (some l) := fun j l h => by
    by_cases hij : i = j
    · subst hij
      have hl : i < ρ.length := by
        have := (List.getElem?_eq_some_iff.mp h).1
        rwa [List.length_set] at this
      rw [List.getElem?_set_self hl] at h
      cases h
    · rw [List.getElem?_set_ne hij] at h
      exact ⟨hij, h⟩
  refine ⟨k.s, by rw [List.length_set, List.length_set]; exact k.len, fun j e h => ?_, fun j e h => ?_, fun j l e f p h1 h2 h3 h4 => ?_⟩
  · obtain ⟨n, h⟩ := off j _ h
    rw [List.getElem?_set_ne n]
    exact k.im j e h
  · obtain ⟨n, h⟩ := off j _ h
    rw [List.getElem?_set_ne n]
    exact k.mu j e h
  · obtain ⟨n1, h1⟩ := off j _ h1
    obtain ⟨n2, h2⟩ := off l _ h2
    rw [List.getElem?_set_ne n1] at h3
    rw [List.getElem?_set_ne n2] at h4
    exact k.ap j l e f p h1 h2 h3 h4
theorem Ok.wipe {J H : Hp} {ρ : Env} {σ : L2.St} (k : Ok J H ρ σ) : ∀ vs : List Nat, Ok J H (wipeE ρ vs) (L2.wipe σ vs)
  | [] => k
  | v :: vs => (Ok.wipe k vs).forget v
theorem wipe_at (σ : L2.St) (i : Nat) : ∀ vs : List Nat, (L2.wipe σ vs)[i]? = if i ∈ vs ∧ i < σ.length then some none else σ[i]?
  | [] => by simp [L2.wipe]
  | v :: vs => by
    unfold L2.wipe
    by_cases hv : v = i
    · subst hv
      by_cases hl : v < σ.length
      · rw [List.getElem?_set_self (by rw [wipe_length]; exact hl)]
        simp [hl]
      · rw [List.getElem?_eq_none (by rw [List.length_set, wipe_length]; omega)]
        simp [hl]
    · rw [List.getElem?_set_ne hv, wipe_at σ i vs]
      have e : (i ∈ v :: vs) ↔ i ∈ vs := by
        rw [List.mem_cons]
        exact ⟨fun z => z.resolve_left (fun q => hv q.symm), .inr⟩
      simp only [e]
theorem wipe_same {σ σ' : L2.St} {is vs : List Nat} (hl : σ'.length = (L2.wipe σ vs).length) (off : ∀ i, i ∉ is → σ'[i]? = (L2.wipe σ vs)[i]?) (hs : ∀ i ∈ is, i ∈ vs) : L2.wipe σ' vs = L2.wipe σ vs := by
  rw [wipe_length] at hl
  refine List.ext_getElem? fun i => ?_
  rw [wipe_at, wipe_at]
  by_cases hi : i ∈ vs
  · simp [hi, hl]
    by_cases hli : i < σ.length
    · simp [hli]
    · simp [hli]
      omega
  · have h1 := off i (fun z => hi (hs i z))
    rw [wipe_at] at h1
    simp [hi] at h1 ⊢
    exact h1
theorem up_lc {I : DI} {is vs : List Nat} {g : DG} {T : DT} {F : DE} (hs : ∀ i ∈ is, i ∈ vs) {σ : L2.St} {H : Hp} {Q : VK} (h : up (dLc I g T F vs) σ H Q) : tLc (upI I) (upg is g) (upT T) (up F) vs σ H Q := by
  obtain ⟨J, ρ, P, k, h1, h2⟩ := h
  refine ⟨J, ρ, _, k, h1, fun ds hds It J1 H1 e1 w D hD => ?_⟩
  obtain ⟨hlen, hrun⟩ := hds
  obtain ⟨G, Y, wk, hG, hY⟩ := w.ex
  have k1 := k.ext e1
  refine lc_it wk (fun i H' => ∃ J' acc av, Ext J1 H1 J' H' ∧ J' D = none ∧ H' D = some (.lst av) ∧ Reps J' acc av ∧ acc.length ≤ i ∧ lcRun g T F (wipeE ρ vs) (ds.drop i) acc fun out => P (.nw (.lst out)))
    ⟨J1, [], [], Ext.new e1.s hD, e1.s.free hD, upd_same, Reps.nil, Nat.zero_le _, hrun⟩ (fun i H' _ ⟨J', acc, av, x, _⟩ => hG H' (x.j.trans x.s)) (fun i x H' H2 hi ⟨J', acc, av, x1, x2, x3, x4, x5, x6⟩ y => ?_) (fun H' ⟨J', acc, av, x1, x2, x3, x4, x5, x6⟩ => ?_)
  · have hd : ds[i]? = some ds[i] := List.getElem?_eq_getElem hi
    obtain ⟨J2, e2, rx⟩ := hY i J' H' x H2 ds[i] hd x1.j x1.s y
    rw [List.drop_eq_getElem_cons hi] at x6
    have k2 : Ok J2 H2 (wipeE ρ vs) (L2.wipe σ vs) := (k1.ext (x1.trans e2)).wipe vs
    refine ⟨J2, H2, J2, _, .im ds[i], _, k2, .refl e2.s, rx, x6, fun ρ2 σ2 J3 H3 k3 e3 f3 o3 n3 => ⟨wipe_same o3.1 o3.2 hs, ?_⟩⟩
    refine ⟨J3, ρ2, _, k3, n3, fun b hb J4 H4 e4 => ?_⟩
    have x14 := ((x1.trans e2).trans e3).trans e4
    have hD4 : H4 D = some (.lst av) := ((e2.trans e3).trans e4).h _ _ x3
    have hJ4 : J4 D = none := ((e2.trans e3).trans e4).out x2 x3
    have ra4 : Reps J4 acc av := x4.mono ((e2.trans e3).trans e4).j
    cases b with
    | false => exact iteF ⟨J4, acc, av, x14, hJ4, hD4, ra4, by omega, hb⟩
    | true =>
      refine iteT ⟨J4, ρ2, _, k3.ext e4, hb, fun r hr v J5 H5 e5 r5 => ?_⟩
      obtain ⟨d, J6, e6, s6, r6, n6⟩ := keepR_ok e5 r5 hr
      refine ⟨av, e6.h _ _ hD4, line_lt (by rw [← x4.len]; omega), J6, acc ++ [d], av ++ [v], ?_, e6.out hJ4 hD4, upd_same, (ra4.mono e6.j).append (.one r6), by rw [List.length_append]; simp; omega, n6⟩
      have x16 := x14.trans e6
      have hj6 := e6.out hJ4 hD4
      exact ⟨x16.j, fun b u q => by rw [upd_ne (ne_of_none q hD)]; exact x16.h _ _ q, fun b u q => by rw [upd_ne (ne_of_none q hj6)]; exact x16.s _ _ q, x16.loc⟩
  · have e0 : ds.drop ds.length = [] := List.drop_length
    rw [e0] at x6
    exact h2 _ x6 _ J' H' (e1.trans x1) ⟨D, .lst av, rfl, e1.h.free hD, x2, x3, x4⟩
theorem xe_lc {X : Cx} {elt tg iter : Expr} {ifs : List Expr} {scope : Scope} {own : List (Str × Nat)} {pos : Pos} {I : DI} {is : List Nat} {g : DG} {T : DT} {F : DE} (hc : X.calm = true) (hN : X.N.Nodup) (hi : XI X tg iter I) (ok : BlkOk X.N X.env.scope scope own)
    (his : ∀ i ∈ is, i ∈ own.map (·.2)) (hg : ∀ (s : Shared) (H : Hp) (C : Addr) (cl : List (Str × Addr)) (fp : List Addr), XG (X.blk s H scope (compEnvC scope cl C X.env) fp) tg is g) (ht : ∀ (s : Shared) (H : Hp) (C : Addr) (cl : List (Str × Addr)) (fp : List Addr), XTs (X.blk s H scope (compEnvC scope cl C X.env) fp) ifs T)
    (he : ∀ (s : Shared) (H : Hp) (C : Addr) (cl : List (Str × Addr)) (fp : List Addr), XE (X.blk s H scope (compEnvC scope cl C X.env) fp) elt F) (hs : ∀ x, foldedSetIterable iter X.env x = pure x := by intro _; rfl) :
    XE X (.ListComp elt [⟨tg, iter, ifs, 0⟩] scope pos) (dLc I g T F (own.map (·.2))) := pe_weak (pe_lc hc hN hi ok hg ht he hs) fun σ H Q h => up_lc his h
theorem xs_setLc (m : Bool) {X : Cx} {i : Nat} {y : Str} {py : Pos} {elt tg iter : Expr} {ifs : List Expr} {scope : Scope} {own : List (Str × Nat)} {pos spos : Pos} {I : DI} {is : List Nat} {g : DG} {T : DT} {F : DE} (hc : X.calm = true) (hN : X.N.Nodup) (hy : X.N[i]? = some y) (hyl : X.env.scope.names.lookup y = some .local)
    (hsw : swapsWith (.ListComp elt [⟨tg, iter, ifs, 0⟩] scope pos) (some (.Name y py)) spos.line X.env = pure true) (hi : XI X tg iter I) (ok : BlkOk X.N X.env.scope scope own) (his : ∀ i ∈ is, i ∈ own.map (·.2))
    (hg : ∀ (s : Shared) (H : Hp) (C : Addr) (cl : List (Str × Addr)) (fp : List Addr), XG (X.blk s H scope (compEnvC scope cl C X.env) fp) tg is g) (ht : ∀ (s : Shared) (H : Hp) (C : Addr) (cl : List (Str × Addr)) (fp : List Addr), XTs (X.blk s H scope (compEnvC scope cl C X.env) fp) ifs T)
    (he : ∀ (s : Shared) (H : Hp) (C : Addr) (cl : List (Str × Addr)) (fp : List Addr), XE (X.blk s H scope (compEnvC scope cl C X.env) fp) elt F) (hs : ∀ x, foldedSetIterable iter X.env x = pure x := by intro _; rfl) :
    XS X (.Assign [.Name y py] (.ListComp elt [⟨tg, iter, ifs, 0⟩] scope pos) spos) (dAsg (dLc I g T F (own.map (·.2))) (dSt m i)) := ps_weak (ps_setLc hc hN hy hyl hsw hi ok hg ht he hs) fun E σ H h => by
  obtain ⟨J0, H0, J, ρ, DD, k, f, h1, t⟩ := h
  refine up_lc (F := F) (Q := fun x H1 => gName i x σ H1 E.nx) his ⟨J, ρ, _, k, h1, fun r hr v J1 H1 e1 r1 => ?_⟩
  exact g_store ⟨J, H, J1, ρ, r, _, k, e1, r1, hr, fun ρ' σ' J' H' k' e' f' o' n' => t.nx k' (f' _ _ f) n'⟩
end Dl
set_option Elab.async false
set_option linter.all false
set_option maxRecDepth 100000
set_option maxHeartbeats 4000000
/-! The data layer: operations by their data. -/
namespace Dl
open PySem PySem.Spec PyProof.Rows L2

/-! ### whole numbers -/
def oI (g : Int → Int → D) (x y : R) (P : R → Prop) : Prop := match x.d, y.d with
  | .int i, .int j => P (.im (g i j))
  | _, _ => False
def oIC (C : Int → Int → Prop) (g : Int → Int → D) (x y : R) (P : R → Prop) : Prop := match x.d, y.d with
  | .int i, .int j => C i j ∧ P (.im (g i j))
  | _, _ => False
theorem l_I {f : Int → Int → V} {g : Int → Int → D} (hg : ∀ i j J, Rep J (g i j) (f i j)) : Lift2 (rI0 f) (oI g) := fun J H x y v w P Q s cx cy h k => by
  unfold oI at h
  split at h
  · rename_i i j e1 e2
    exact ⟨i, j, cx.int e1, cy.int e2, k _ h _ J H (.refl s) (hg i j J)⟩
  · exact h.elim
theorem l_IC {C : Int → Int → Prop} {f : Int → Int → V} {g : Int → Int → D} (hg : ∀ i j J, Rep J (g i j) (f i j)) : Lift2 (rI C f) (oIC C g) := fun J H x y v w P Q s cx cy h k => by
  unfold oIC at h
  split at h
  · rename_i i j e1 e2
    exact ⟨i, j, cx.int e1, cy.int e2, h.1, k _ h.2 _ J H (.refl s) (hg i j J)⟩
  · exact h.elim
theorem ri_int {J H J' H' : Hp} {i : Int} : RepR J H J' H' (.im (.int i)) (.int i) := by
  show Rep J' _ _
  simp only [Rep]
theorem ri_bl {J H J' H' : Hp} {i : Bool} : RepR J H J' H' (.im (.bl i)) (.bl i) := by
  show Rep J' _ _
  simp only [Rep]
theorem ri_str {J H J' H' : Hp} {i : Str} : RepR J H J' H' (.im (.str i)) (.str i) := by
  show Rep J' _ _
  simp only [Rep]
theorem ri_non {J H J' H' : Hp} : RepR J H J' H' (.im .non) .non := by
  show Rep J' _ _
  simp only [Rep]
theorem rp_int {J : Hp} {i : Int} : Rep J (.int i) (.int i) := by simp only [Rep]
theorem rp_bl {J : Hp} {i : Bool} : Rep J (.bl i) (.bl i) := by simp only [Rep]
theorem rp_str {J : Hp} {i : Str} : Rep J (.str i) (.str i) := by simp only [Rep]
theorem rp_non {J : Hp} : Rep J .non .non := by simp only [Rep]
theorem rp_at {J : Hp} {a : Addr} : Rep J (.at a) (.ref a) := by simp only [Rep]
abbrev oAdd := oI fun i j => .int (i + j)
abbrev oSub := oI fun i j => .int (i - j)
abbrev oMul := oIC CMul fun i j => .int (i * j)
abbrev oDiv := oIC CDiv fun i j => .int (i / j)
abbrev oMod := oIC (fun _ j => 0 < j) fun i j => .int (i % j)
abbrev oPow := oIC CPow fun i j => .int (i ^ j.toNat)
abbrev oShl := oIC CPow fun i j => .int (i * 2 ^ j.toNat)
abbrev oShr := oIC (fun _ j => 0 ≤ j) fun i j => .int (i / 2 ^ j.toNat)
abbrev oAnd := oI fun i j => .int (Builtin.bitAnd i j)
abbrev oOr := oI fun i j => .int (Builtin.bitOr i j)
abbrev oLt := oI fun i j => .bl (decide (i < j))
abbrev oLe := oI fun i j => .bl (decide (i ≤ j))
abbrev oGt := oI fun i j => .bl (decide (j < i))
abbrev oGe := oI fun i j => .bl (decide (j ≤ i))
section
variable {X : Cx} {a b : Expr} {F G : DE} {pos : Pos}
theorem xe_add (ha : XE X a F) (hb : XE X b G) : XE X (.BinOp a .Add b pos) (dOp oAdd F G) := xe_op op_add (l_I fun _ _ _ => rp_int) ha hb
theorem xe_sub (ha : XE X a F) (hb : XE X b G) : XE X (.BinOp a .Sub b pos) (dOp oSub F G) := xe_op op_sub (l_I fun _ _ _ => rp_int) ha hb
theorem xe_mul (ha : XE X a F) (hb : XE X b G) : XE X (.BinOp a .Mult b pos) (dOp oMul F G) := xe_op op_mul (l_IC fun _ _ _ => rp_int) ha hb
theorem xe_fdiv (ha : XE X a F) (hb : XE X b G) : XE X (.BinOp a .FloorDiv b pos) (dOp oDiv F G) := xe_op op_fdiv (l_IC fun _ _ _ => rp_int) ha hb
theorem xe_mod (ha : XE X a F) (hb : XE X b G) : XE X (.BinOp a .Mod b pos) (dOp oMod F G) := xe_op op_mod (l_IC fun _ _ _ => rp_int) ha hb
theorem xe_pow (ha : XE X a F) (hb : XE X b G) : XE X (.BinOp a .Pow b pos) (dOp oPow F G) := xe_op op_pow (l_IC fun _ _ _ => rp_int) ha hb
theorem xe_shl (ha : XE X a F) (hb : XE X b G) : XE X (.BinOp a .LShift b pos) (dOp oShl F G) := xe_op op_shl (l_IC fun _ _ _ => rp_int) ha hb
theorem xe_shr (ha : XE X a F) (hb : XE X b G) : XE X (.BinOp a .RShift b pos) (dOp oShr F G) := xe_op op_shr (l_IC fun _ _ _ => rp_int) ha hb
theorem xe_bitand (ha : XE X a F) (hb : XE X b G) : XE X (.BinOp a .BitAnd b pos) (dOp oAnd F G) := xe_op op_and (l_I fun _ _ _ => rp_int) ha hb
theorem xe_bitor (ha : XE X a F) (hb : XE X b G) : XE X (.BinOp a .BitOr b pos) (dOp oOr F G) := xe_op op_or (l_I fun _ _ _ => rp_int) ha hb
theorem xe_lt (ha : XE X a F) (hb : XE X b G) : XE X (.Compare a [.Lt] [b] pos) (dOp oLt F G) := xe_cmp op_lt (l_I fun _ _ _ => rp_bl) ha hb (nomark _)
theorem xe_le (ha : XE X a F) (hb : XE X b G) : XE X (.Compare a [.LtE] [b] pos) (dOp oLe F G) := xe_cmp op_le (l_I fun _ _ _ => rp_bl) ha hb (nomark _)
theorem xe_gt (ha : XE X a F) (hb : XE X b G) : XE X (.Compare a [.Gt] [b] pos) (dOp oGt F G) := xe_cmp op_gt (l_I fun _ _ _ => rp_bl) ha hb (nomark _)
theorem xe_ge (ha : XE X a F) (hb : XE X b G) : XE X (.Compare a [.GtE] [b] pos) (dOp oGe F G) := xe_cmp op_ge (l_I fun _ _ _ => rp_bl) ha hb (nomark _)
theorem xt_lt (ha : XE X a F) (hb : XE X b G) : XT X (.Compare a [.Lt] [b] pos) (dTest (dOp oLt F G)) := xt_cmp op_lt (l_I fun _ _ _ => rp_bl) ha hb (nomark _)
theorem xt_le (ha : XE X a F) (hb : XE X b G) : XT X (.Compare a [.LtE] [b] pos) (dTest (dOp oLe F G)) := xt_cmp op_le (l_I fun _ _ _ => rp_bl) ha hb (nomark _)
theorem xt_gt (ha : XE X a F) (hb : XE X b G) : XT X (.Compare a [.Gt] [b] pos) (dTest (dOp oGt F G)) := xt_cmp op_gt (l_I fun _ _ _ => rp_bl) ha hb (nomark _)
theorem xt_ge (ha : XE X a F) (hb : XE X b G) : XT X (.Compare a [.GtE] [b] pos) (dTest (dOp oGe F G)) := xt_cmp op_ge (l_I fun _ _ _ => rp_bl) ha hb (nomark _)
def oNeg (x : R) (P : R → Prop) : Prop := match x.d with
  | .int i => P (.im (.int (-i)))
  | _ => False
theorem xe_neg (ha : XE X a F) : XE X (.UnaryOp .USub a pos) (dUn oNeg F) := xe_un un_neg (fun J H x v P Q s cx h k => by
  unfold oNeg at h
  split at h
  · rename_i i e
    exact ⟨i, cx.int e, k _ h _ J H (.refl s) ri_int⟩
  · exact h.elim) ha
/-! ### ==, is -/
def eqS : D → D → Option Bool
  | .int i, .int j => some (i == j)
  | .str i, .str j => some (i == j)
  | .bl i, .bl j => some (i == j)
  | .non, .non => some true
  | .non, .int _ => some false
  | .int _, .non => some false
  | .non, .str _ => some false
  | .str _, .non => some false
  | _, _ => none
def oEq (x y : R) (P : R → Prop) : Prop := match eqS x.d y.d with
  | some b => P (.im (.bl b))
  | none => False
def oNe (x y : R) (P : R → Prop) : Prop := match eqS x.d y.d with
  | some b => P (.im (.bl (!b)))
  | none => False
theorem eqS_ok {J H : Hp} {x y : R} {v w : V} {b : Bool} (cx : Cur J H x v) (cy : Cur J H y w) (h : eqS x.d y.d = some b) : scal v w = true ∧ decide (v = w) = b := by
  cases e1 : x.d <;> cases e2 : y.d <;> rw [e1, e2] at h <;> first | (cases h; done) | skip
  · rw [cx.non e1, cy.non e2]; cases h; exact ⟨rfl, by simp⟩
  · rw [cx.non e1, cy.int e2]; cases h; exact ⟨rfl, by simp⟩
  · rw [cx.non e1, cy.str e2]; cases h; exact ⟨rfl, by simp⟩
  · rw [cx.bl e1, cy.bl e2]; cases h; exact ⟨rfl, dec_bl⟩
  · rw [cx.int e1, cy.non e2]; cases h; exact ⟨rfl, by simp⟩
  · rw [cx.int e1, cy.int e2]; cases h; exact ⟨rfl, dec_int⟩
  · rw [cx.str e1, cy.non e2]; cases h; exact ⟨rfl, by simp⟩
  · rw [cx.str e1, cy.str e2]; cases h; exact ⟨rfl, dec_str⟩
theorem l_eq : Lift2 rEq oEq := fun J H x y v w P Q s cx cy h k => by
  unfold oEq at h
  split at h
  · rename_i b e
    obtain ⟨h1, h2⟩ := eqS_ok cx cy e
    exact ⟨h1, by rw [h2]; exact k _ h _ J H (.refl s) ri_bl⟩
  · exact h.elim
theorem l_ne : Lift2 rNe oNe := fun J H x y v w P Q s cx cy h k => by
  unfold oNe at h
  split at h
  · rename_i b e
    obtain ⟨h1, h2⟩ := eqS_ok cx cy e
    exact ⟨h1, by rw [h2]; exact k _ h _ J H (.refl s) ri_bl⟩
  · exact h.elim
theorem xe_eq (ha : XE X a F) (hb : XE X b G) : XE X (.Compare a [.Eq] [b] pos) (dOp oEq F G) := xe_cmp op_eq l_eq ha hb (nomark _)
theorem xe_ne (ha : XE X a F) (hb : XE X b G) : XE X (.Compare a [.NotEq] [b] pos) (dOp oNe F G) := xe_cmp op_ne l_ne ha hb (nomark _)
theorem xt_eq (ha : XE X a F) (hb : XE X b G) : XT X (.Compare a [.Eq] [b] pos) (dTest (dOp oEq F G)) := xt_cmp op_eq l_eq ha hb (nomark _)
theorem xt_ne (ha : XE X a F) (hb : XE X b G) : XT X (.Compare a [.NotEq] [b] pos) (dTest (dOp oNe F G)) := xt_cmp op_ne l_ne ha hb (nomark _)
def isNonD : D → Bool
  | .non => true
  | _ => false
def oIsN (x y : R) (P : R → Prop) : Prop := match y.d with
  | .non => P (.im (.bl (isNonD x.d)))
  | _ => False
def oNotN (x y : R) (P : R → Prop) : Prop := match y.d with
  | .non => P (.im (.bl (!isNonD x.d)))
  | _ => False
theorem Cur.isNon {J H : Hp} {x : R} {v : V} (cx : Cur J H x v) : decide (v = .non) = isNonD x.d := by
  have aux : ∀ (d : D), Rep J d v → decide (v = .non) = isNonD d := fun d h => by
    cases d <;> simp only [Rep] at h <;> first
      | (subst h; simp [isNonD]; done)
      | (obtain ⟨p, q⟩ := h; obtain ⟨z, rfl, _⟩ := q; simp [isNonD]; done)
      | (obtain ⟨p, z, y, rfl, _⟩ := h; simp [isNonD])
  cases x with
  | im d => exact aux d cx
  | nw d =>
    obtain ⟨p, o, rfl, _, _, h⟩ := cx
    show decide (V.ref p = .non) = isNonD d
    cases d <;> first | (cases o <;> exact h.elim) | simp [isNonD]
  | mu d =>
    obtain ⟨p, o, rfl, _, _, h⟩ := cx
    show decide (V.ref p = .non) = isNonD d
    cases d <;> first | (cases o <;> exact h.elim) | simp [isNonD]
theorem xe_isN (ha : XE X a F) (hb : XE X b G) : XE X (.Compare a [.Is] [b] pos) (dOp oIsN F G) := xe_cmp op_isN (fun J H x y v w P Q s cx cy h k => by
  unfold oIsN at h
  split at h
  · rename_i e
    exact ⟨cy.non e, by rw [cx.isNon]; exact k _ h _ J H (.refl s) ri_bl⟩
  · exact h.elim) ha hb (nomark _)
theorem l_notN : Lift2 (fun x y H Q => y = .non ∧ Q (.bl (!decide (x = .non))) H) oNotN := fun J H x y v w P Q s cx cy h k => by
  unfold oNotN at h
  split at h
  · rename_i e
    exact ⟨cy.non e, by rw [cx.isNon]; exact k _ h _ J H (.refl s) ri_bl⟩
  · exact h.elim
theorem xe_notN (ha : XE X a F) (hb : XE X b G) : XE X (.Compare a [.IsNot] [b] pos) (dOp oNotN F G) := xe_cmp op_notN l_notN ha hb (nomark _)
theorem xt_notN (ha : XE X a F) (hb : XE X b G) : XT X (.Compare a [.IsNot] [b] pos) (dTest (dOp oNotN F G)) := xt_cmp op_notN l_notN ha hb (nomark _)
def oNotB (x y : R) (P : R → Prop) : Prop := match x.d, y.d with
  | .bl i, .bl j => P (.im (.bl (!(i == j))))
  | _, _ => False
theorem l_notB : Lift2 rNotB oNotB := fun J H x y v w P Q s cx cy h k => by
  unfold oNotB at h
  split at h
  · rename_i i j e1 e2
    refine ⟨i, j, cx.bl e1, cy.bl e2, ?_⟩
    have e3 : decide (i = j) = (i == j) := by cases i <;> cases j <;> rfl
    rw [e3]
    exact k _ h _ J H (.refl s) ri_bl
  · exact h.elim
theorem xe_notB (ha : XE X a F) (hb : XE X b G) : XE X (.Compare a [.IsNot] [b] pos) (dOp oNotB F G) := xe_cmp op_notBl l_notB ha hb (nomark _)
theorem xt_notB (ha : XE X a F) (hb : XE X b G) : XT X (.Compare a [.IsNot] [b] pos) (dTest (dOp oNotB F G)) := xt_cmp op_notBl l_notB ha hb (nomark _)
/-! ### data at any depth compared -/
mutual
def pyD : D → Option PyData
  | .non => some .none
  | .bl b => some (.bool b)
  | .int i => some (.int i)
  | .str z => some (.str z)
  | .lst ds => (pysD ds).map PyData.list
  | .tup ds => (pysD ds).map PyData.tuple
  | _ => none
def pysD : List D → Option (List PyData)
  | [] => some []
  | d :: ds => match pyD d, pysD ds with
    | some x, some xs => some (x :: xs)
    | _, _ => none
end
mutual
theorem pyD_ok {J H : Hp} {K : PySem.W.Frag} (s : Same J H) : ∀ {d : D} {v : V} {p : PyData}, pyD d = some p → Rep J d v → Dp K H v p
  | .non, v, p, h, r => by simp only [pyD, Option.some.injEq] at h; subst h; simp only [Rep] at r; subst r; exact .non
  | .bl b, v, p, h, r => by simp only [pyD, Option.some.injEq] at h; subst h; simp only [Rep] at r; subst r; exact .bl b
  | .int b, v, p, h, r => by simp only [pyD, Option.some.injEq] at h; subst h; simp only [Rep] at r; subst r; exact .int b
  | .str b, v, p, h, r => by simp only [pyD, Option.some.injEq] at h; subst h; simp only [Rep] at r; subst r; exact .str b
  | .lst ds, v, p, h, r => by
    simp only [pyD] at h
    obtain ⟨xs, h1, rfl⟩ := Option.map_eq_some_iff.mp h
    simp only [Rep] at r
    obtain ⟨q, vs, rfl, hq, rs⟩ := r
    exact .lst (SqL.of (s _ _ hq)) (pysD_ok s h1 rs)
  | .tup ds, v, p, h, r => by
    simp only [pyD] at h
    obtain ⟨xs, h1, rfl⟩ := Option.map_eq_some_iff.mp h
    simp only [Rep] at r
    obtain ⟨q, vs, rfl, hq, rs⟩ := r
    exact .tup (SqT.of (s _ _ hq)) (pysD_ok s h1 rs)
  | .at _, _, _, h, _ => by simp [pyD] at h
  | .ty _, _, _, h, _ => by simp [pyD] at h
  | .dK _ _, _, _, h, _ => by simp [pyD] at h
  | .dT _ _, _, _, h, _ => by simp [pyD] at h
  | .ins _ _ _, _, _, h, _ => by simp [pyD] at h
theorem pysD_ok {J H : Hp} {K : PySem.W.Frag} (s : Same J H) : ∀ {ds : List D} {vs : List V} {ps : List PyData}, pysD ds = some ps → Reps J ds vs → DpAll K H vs ps
  | [], vs, ps, h, r => by simp only [pysD, Option.some.injEq] at h; subst h; rw [r.unnil]; exact .nil
  | d :: ds, vs, ps, h, r => by
    simp only [pysD] at h
    obtain ⟨v, w, rfl, r1, r2⟩ := r.uncons
    split at h
    · rename_i x xs e1 e2
      cases h
      exact .cons (pyD_ok s e1 r1) (pysD_ok s e2 r2)
    · cases h
end
theorem Cur.dp {J H : Hp} {K : PySem.W.Frag} {x : R} {v : V} {p : PyData} (s : Same J H) (cx : Cur J H x v) (h : pyD x.d = some p) : Dp K H v p := by
  cases x with
  | im d => exact pyD_ok s h cx
  | nw d =>
    obtain ⟨q, o, rfl, g1, g2, g3⟩ := cx
    have h : pyD d = some p := h
    cases o <;> cases d <;> first | exact g3.elim | (simp [pyD] at h; done) | skip
    simp only [pyD] at h
    obtain ⟨xs, h1, rfl⟩ := Option.map_eq_some_iff.mp h
    exact .lst (SqL.of g2) (pysD_ok s h1 g3)
  | mu d =>
    obtain ⟨q, o, rfl, g1, g2, g3⟩ := cx
    have h : pyD d = some p := h
    cases o <;> cases d <;> first | exact g3.elim | (simp [pyD] at h; done) | skip
    simp only [pyD] at h
    obtain ⟨xs, h1, rfl⟩ := Option.map_eq_some_iff.mp h
    exact .lst (SqL.of g2) (pysD_ok s h1 g3)
def oEqD (x y : R) (P : R → Prop) : Prop := ∃ p q b, pyD x.d = some p ∧ pyD y.d = some q ∧ SeqAt.shaped p = true ∧ SeqAt.shaped q = true ∧ PyData.eqv p q = b ∧ P (.im (.bl b))
def oNeD (x y : R) (P : R → Prop) : Prop := ∃ p q b, pyD x.d = some p ∧ pyD y.d = some q ∧ SeqAt.shaped p = true ∧ SeqAt.shaped q = true ∧ PyData.eqv p q = b ∧ P (.im (.bl (!b)))
theorem l_eqD {K : PySem.W.Frag} : Lift2 (rEqD K) oEqD := fun J H x y v w P Q s cx cy h k => by
  obtain ⟨p, q, b, h1, h2, h3, h4, h5, h6⟩ := h
  exact ⟨p, q, cx.dp s h1, cy.dp s h2, h3, h4, by rw [h5]; exact k _ h6 _ J H (.refl s) ri_bl⟩
theorem l_neD {K : PySem.W.Frag} : Lift2 (rNeD K) oNeD := fun J H x y v w P Q s cx cy h k => by
  obtain ⟨p, q, b, h1, h2, h3, h4, h5, h6⟩ := h
  exact ⟨p, q, cx.dp s h1, cy.dp s h2, h3, h4, by rw [h5]; exact k _ h6 _ J H (.refl s) ri_bl⟩
theorem xe_eqD (hu : X.A.units + 64 < cLine) (ha : XE X a F) (hb : XE X b G) : XE X (.Compare a [.Eq] [b] pos) (dOp oEqD F G) := xe_cmp (op_eqD hu) l_eqD ha hb (nomark _)
theorem xe_neD (hu : X.A.units + 64 < cLine) (ha : XE X a F) (hb : XE X b G) : XE X (.Compare a [.NotEq] [b] pos) (dOp oNeD F G) := xe_cmp (op_neD hu) l_neD ha hb (nomark _)
theorem xt_eqD (hu : X.A.units + 64 < cLine) (ha : XE X a F) (hb : XE X b G) : XT X (.Compare a [.Eq] [b] pos) (dTest (dOp oEqD F G)) := xt_cmp (op_eqD hu) l_eqD ha hb (nomark _)
theorem xt_neD (hu : X.A.units + 64 < cLine) (ha : XE X a F) (hb : XE X b G) : XT X (.Compare a [.NotEq] [b] pos) (dTest (dOp oNeD F G)) := xt_cmp (op_neD hu) l_neD ha hb (nomark _)
/-! ### in -/
def flatD : D → Option V
  | .non => some .non
  | .bl b => some (.bl b)
  | .int i => some (.int i)
  | .str z => some (.str z)
  | _ => none
def flatsD : List D → Option (List V)
  | [] => some []
  | d :: ds => match flatD d, flatsD ds with
    | some v, some vs => some (v :: vs)
    | _, _ => none
theorem flatD_ok {J : Hp} {d : D} {v w : V} (h : flatD d = some w) (r : Rep J d v) : v = w ∧ flatV w = true := by
  cases d <;> simp only [flatD, Option.some.injEq] at h <;> first | (cases h; done) | (subst h; simp only [Rep] at r; exact ⟨r, rfl⟩)
theorem flatsD_ok {J : Hp} : ∀ {ds : List D} {vs ws : List V}, flatsD ds = some ws → Reps J ds vs → vs = ws ∧ ws.all flatV = true
  | [], vs, ws, h, r => by simp only [flatsD, Option.some.injEq] at h; subst h; exact ⟨r.unnil, rfl⟩
  | d :: ds, vs, ws, h, r => by
    simp only [flatsD] at h
    obtain ⟨v, w, rfl, r1, r2⟩ := r.uncons
    split at h
    · rename_i x xs e1 e2
      cases h
      obtain ⟨a1, a2⟩ := flatD_ok e1 r1
      obtain ⟨b1, b2⟩ := flatsD_ok e2 r2
      exact ⟨by rw [a1, b1], by rw [List.all_cons, a2, b2]; rfl⟩
    · cases h
def oIn (neg : Bool) (x y : R) (P : R → Prop) : Prop := match flatD x.d, y.d with
  | some v, .lst ds => (match flatsD ds with
    | some vs => P (.im (.bl (if neg then !inV v vs else inV v vs)))
    | none => False)
  | some v, .tup ds => (match flatsD ds with
    | some vs => P (.im (.bl (if neg then !inV v vs else inV v vs)))
    | none => False)
  | _, _ => False
theorem Cur.flat {J H : Hp} {x : R} {v w : V} (cx : Cur J H x v) (h : flatD x.d = some w) : v = w ∧ flatV w = true := by
  cases x with
  | im d => exact flatD_ok h cx
  | nw d =>
    obtain ⟨p, o, _, _, _, g⟩ := cx
    have h : flatD d = some w := h
    cases d <;> first | (cases h; done) | (cases o <;> exact g.elim)
  | mu d =>
    obtain ⟨p, o, _, _, _, g⟩ := cx
    have h : flatD d = some w := h
    cases d <;> first | (cases h; done) | (cases o <;> exact g.elim)
theorem l_in {K : PySem.W.Frag} {neg : Bool} : Lift2 (rIn K neg) (oIn neg) := fun J H x y v w P Q s cx cy h k => by
  unfold oIn at h
  split at h
  · rename_i u ds e1 e2
    split at h
    · rename_i us e3
      obtain ⟨p, vs, rfl, hp, rs⟩ := cy.lst s e2
      obtain ⟨a1, a2⟩ := cx.flat e1
      obtain ⟨b1, b2⟩ := flatsD_ok e3 rs
      subst a1 b1
      exact ⟨p, vs, rfl, .inl (SqL.of hp), a2, b2, k _ h _ J H (.refl s) ri_bl⟩
    · exact h.elim
  · rename_i u ds e1 e2
    split at h
    · rename_i us e3
      obtain ⟨p, vs, rfl, hp, rs, _⟩ := cy.tup s e2
      obtain ⟨a1, a2⟩ := cx.flat e1
      obtain ⟨b1, b2⟩ := flatsD_ok e3 rs
      subst a1 b1
      exact ⟨p, vs, rfl, .inr (SqT.of hp), a2, b2, k _ h _ J H (.refl s) ri_bl⟩
    · exact h.elim
  · exact h.elim
theorem xe_in (ha : XE X a F) (hb : XE X b G) (hm : behindInMarks .In b = false := by rfl) : XE X (.Compare a [.In] [b] pos) (dOp (oIn false) F G) := xe_cmp op_in_seq l_in ha hb hm
theorem xt_in (ha : XE X a F) (hb : XE X b G) (hm : behindInMarks .In b = false := by rfl) : XT X (.Compare a [.In] [b] pos) (dTest (dOp (oIn false) F G)) := xt_cmp op_in_seq l_in ha hb hm
theorem xe_notIn (ha : XE X a F) (hb : XE X b G) (hm : behindInMarks .NotIn b = false := by rfl) : XE X (.Compare a [.NotIn] [b] pos) (dOp (oIn true) F G) := xe_cmp op_notIn_seq l_in ha hb hm
theorem xt_notIn (ha : XE X a F) (hb : XE X b G) (hm : behindInMarks .NotIn b = false := by rfl) : XT X (.Compare a [.NotIn] [b] pos) (dTest (dOp (oIn true) F G)) := xt_cmp op_notIn_seq l_in ha hb hm
/-- a text of one sign in a text -/
def signIn (x z : Str) : Option Bool := match x.cps.toList with
  | [c] => some (decide (c ∈ z.cps.toList))
  | _ => none
def oInS (neg : Bool) (x y : R) (P : R → Prop) : Prop := match x.d, y.d with
  | .str u, .str z => (match signIn u z with
    | some b => P (.im (.bl (if neg then !b else b)))
    | none => False)
  | _, _ => False
theorem signIn_ok {u z : Str} {b : Bool} (h : signIn u z = some b) : ∃ c, u = ⟨#[c]⟩ ∧ decide (c ∈ z.cps.toList) = b := by
  unfold signIn at h
  split at h
  · rename_i c e
    refine ⟨c, ?_, Option.some.inj h⟩
    cases u with
    | mk cs =>
      have e2 : cs = [c].toArray := by rw [← e]
      rw [e2]
  · cases h
theorem xe_inS (ha : XE X a F) (hb : XE X b G) (hm : behindInMarks .In b = false := by rfl) : XE X (.Compare a [.In] [b] pos) (dOp (oInS false) F G) := xe_cmp op_in_sign (fun J H x y v w P Q s cx cy h k => by
  unfold oInS at h
  split at h
  · rename_i u z e1 e2
    split at h
    · rename_i b e3
      obtain ⟨c, rfl, eb⟩ := signIn_ok e3
      exact ⟨c, z, cx.str e1, cy.str e2, by rw [eb]; exact k _ h _ J H (.refl s) ri_bl⟩
    · exact h.elim
  · exact h.elim) ha hb hm
theorem l_notInS : Lift2 (fun x y H Q => ∃ (c : Nat) (z : Str), x = .str ⟨#[c]⟩ ∧ y = .str z ∧ Q (.bl (!decide (c ∈ z.cps.toList))) H) (oInS true) := fun J H x y v w P Q s cx cy h k => by
  unfold oInS at h
  split at h
  · rename_i u z e1 e2
    split at h
    · rename_i b e3
      obtain ⟨c, rfl, eb⟩ := signIn_ok e3
      exact ⟨c, z, cx.str e1, cy.str e2, by rw [eb]; exact k _ h _ J H (.refl s) ri_bl⟩
    · exact h.elim
  · exact h.elim
theorem xe_notInS (ha : XE X a F) (hb : XE X b G) (hm : behindInMarks .NotIn b = false := by rfl) : XE X (.Compare a [.NotIn] [b] pos) (dOp (oInS true) F G) := xe_cmp op_notIn_sign l_notInS ha hb hm
theorem xt_notInS (ha : XE X a F) (hb : XE X b G) (hm : behindInMarks .NotIn b = false := by rfl) : XT X (.Compare a [.NotIn] [b] pos) (dTest (dOp (oInS true) F G)) := xt_cmp op_notIn_sign l_notInS ha hb hm
end
end Dl
set_option Elab.async false
set_option linter.all false
set_option maxRecDepth 100000
set_option maxHeartbeats 4000000
/-! The data layer: texts, lists, dicts, built-in functions. -/
namespace Dl
open PySem PySem.Spec PyProof.Rows L2

/-! ### texts -/
def oCatS (x y : R) (P : R → Prop) : Prop := match x.d, y.d with
  | .str i, .str j => i.length + j.length ≤ 100000 ∧ P (.im (.str (i ++ j)))
  | _, _ => False
def repS (z : Str) (n : Nat) : Str := ⟨(List.replicate n z.cps.toList).flatten.toArray⟩
def oRepS (x y : R) (P : R → Prop) : Prop := match x.d, y.d with
  | .str z, .int n => -1000 ≤ n ∧ n ≤ 1000 ∧ z.length ≤ 1000 ∧ P (.im (.str (repS z n.toNat)))
  | _, _ => False
theorem fold_cps (cs : Array Nat) : ∀ (n : Nat) (acc : Array Nat), (List.replicate n cs).foldl (· ++ ·) acc = acc ++ (List.replicate n cs.toList).flatten.toArray
  | 0, acc => by simp
  | n + 1, acc => by
    rw [List.replicate_succ, List.foldl_cons, fold_cps cs n, List.replicate_succ, List.flatten_cons]
    apply Array.toList_inj.mp
    simp
theorem op_repS {X : Cx} : OpR X (binaryOp .Mult) (fun x y H Q => ∃ z n, x = .str z ∧ y = .int n ∧ -1000 ≤ n ∧ n ≤ 1000 ∧ z.length ≤ 1000 ∧ Q (.str (repS z n.toNat)) H) := by
  intro pins s σ H x y v u Q I rx ry h
  obtain ⟨z, n, rfl, rfl, h1, h2, h3, q⟩ := h
  obtain ⟨t, rfl⟩ := rx
  obtain ⟨t', rfl⟩ := ry
  have hz : sizeLine = 16777216 := sizeLine_eq
  have big : ∀ k : Nat, k ≤ 1000 → z.length * k ≤ 1000000 := fun k hk => by
    have := Nat.mul_le_mul h3 hk
    omega
  refine PySem.P.mul_str ?_ (fun a _ => ?_) (fun a _ => ?_) ?_
  · rw [decide_eq_false (by omega), decide_eq_false (by omega)]
    rfl
  · have e : (9223372036854775807 : Int) / n ≥ 9223372036854775 := by
      have := Int.le_ediv_of_mul_le (a := 9223372036854775) (b := 9223372036854775807) (c := n) (by omega) (by omega)
      exact this
    have e2 : ((2 : Int) ^ 63 - 1) = 9223372036854775807 := by decide
    rw [e2]
    omega
  · have b := big n.toNat (by omega)
    unfold Builtin.Str.tooLong
    rw [decide_eq_false_iff_not, hz]
    omega
  · by_cases hn : n < 1
    · rw [if_pos hn]
      have e : repS z n.toNat = Str.empty := by
        have : n.toNat = 0 := by omega
        rw [this]
        rfl
      rw [e] at q
      exact ⟨by decide, ⟨.str Str.empty, H, I.tok _, ⟨_, rfl⟩, q⟩⟩
    · rw [if_neg hn]
      by_cases hc : (n == 1 || z.length == 0) = true
      · rw [if_pos hc]
        have e : repS z n.toNat = z := by
          have h4 : n = 1 ∨ z.length = 0 := by simpa using hc
          rcases h4 with h4 | h4
          · subst h4
            unfold repS
            simp
          · cases z with
            | mk cs =>
              have h5 : cs = #[] := Array.eq_empty_of_size_eq_zero h4
              subst h5
              unfold repS
              simp
        rw [e] at q
        exact ⟨.str z, H, I, ⟨_, rfl⟩, q⟩
      · rw [if_neg hc]
        refine ⟨?_, ?_⟩
        · have b := big n.toNat (by omega)
          have e : ((List.replicate n.toNat z.cps).foldl (· ++ ·) #[]).size = n.toNat * z.length := by
            rw [fold_cps]
            simp
            rfl
          show ((List.replicate n.toNat z.cps).foldl (· ++ ·) #[]).size ≤ sizeLine
          rw [e, Nat.mul_comm, hz]
          omega
        · have e : (⟨(List.replicate n.toNat z.cps).foldl (· ++ ·) #[]⟩ : Str) = repS z n.toNat := by
            rw [fold_cps]
            unfold repS
            simp
          rw [e]
          exact ⟨.str _, H, I.tok _, ⟨_, rfl⟩, q⟩

/-! ### subscripts, slices -/
def oIx (x y : R) (P : R → Prop) : Prop := match x.d, y.d with
  | .lst ds, .int i => (match atI ds i with
    | some d => P (.im d)
    | none => False)
  | .tup ds, .int i => (match atI ds i with
    | some d => P (.im d)
    | none => False)
  | .str z, .int i => (match atI z.cps.toList i with
    | some c => z.length ≤ 100000 ∧ P (.im (.str ⟨#[c]⟩))
    | none => False)
  | _, _ => False
theorem atI_rep {J : Hp} {ds : List D} {vs : List V} {i : Int} {d : D} (rs : Reps J ds vs) (h : atI ds i = some d) : ∃ v, atI vs i = some v ∧ Rep J d v := by
  unfold atI at h ⊢
  rw [← rs.len]
  cases e : ixN ds.length i with
  | none => rw [e] at h; cases h
  | some j =>
    rw [e] at h
    exact rs.get h
theorem l_ix {K : PySem.W.Frag} : Lift2 (rIx K) oIx := fun J H x y v w P Q s cx cy h k => by
  unfold oIx at h
  split at h
  · rename_i ds i e1 e2
    split at h
    · rename_i d e3
      obtain ⟨p, vs, rfl, hp, rs⟩ := cx.lst s e1
      obtain ⟨u, hu, ru⟩ := atI_rep rs e3
      exact .inl ⟨p, vs, i, u, rfl, cy.int e2, SqL.of hp, hu, k _ h _ J H (.refl s) (RepR.im d ru)⟩
    · exact h.elim
  · rename_i ds i e1 e2
    split at h
    · rename_i d e3
      obtain ⟨p, vs, rfl, hp, rs, _⟩ := cx.tup s e1
      obtain ⟨u, hu, ru⟩ := atI_rep rs e3
      exact .inr (.inl ⟨p, vs, i, u, rfl, cy.int e2, SqT.of hp, hu, k _ h _ J H (.refl s) (RepR.im d ru)⟩)
    · exact h.elim
  · rename_i z i e1 e2
    split at h
    · rename_i c e3
      exact .inr (.inr ⟨z, i, c, cx.str e1, cy.int e2, line_le h.1, e3, k _ h.2 _ J H (.refl s) ri_str⟩)
    · exact h.elim
  · exact h.elim
abbrev DO := Env → (Option Int → Prop) → Prop
def upO (F : DO) : TO := fun σ H Q => ∃ J ρ P, Ok J H ρ σ ∧ F ρ P ∧ ∀ o, P o → ∀ J' H', Ext J H J' H' → Q o H'
abbrev XO (X : Cx) (e : Option Expr) (F : DO) : Prop := PO X e (upO F)
def dNoPart (_ : Env) (P : Option Int → Prop) : Prop := P none
def dPart (F : DE) (ρ : Env) (P : Option Int → Prop) : Prop := F ρ fun r => match r.d with
  | .int i => P (some i)
  | _ => False
def cutD {α : Type} (xs : List α) (lo hi : Option Int) : List α := (xs.drop (HT.sIx xs.length 0 lo)).take (HT.sIx xs.length xs.length hi - HT.sIx xs.length 0 lo)
def dSl (F : DE) (L U : DO) (ρ : Env) (P : R → Prop) : Prop := F ρ fun x => L ρ fun lo => U ρ fun hi => match x.d with
  | .lst ds => P (.nw (.lst (cutD ds lo hi)))
  | .str z => z.length ≤ 100000 ∧ P (.im (.str ⟨(cutD z.cps.toList lo hi).toArray⟩))
  | _ => False
def dRev (F : DE) (ρ : Env) (P : R → Prop) : Prop := F ρ fun x => match x.d with
  | .lst ds => P (.nw (.lst ds.reverse))
  | _ => False
section
variable {X : Cx} {a b e : Expr} {F G : DE} {pos p2 p3 : Pos} {lo hi : Option Expr} {L U : DO}
theorem xe_catS (ha : XE X a F) (hb : XE X b G) : XE X (.BinOp a .Add b pos) (dOp oCatS F G) := xe_op op_add_str (fun J H x y v w P Q s cx cy h k => by
  unfold oCatS at h
  split at h
  · rename_i i j e1 e2
    exact ⟨i, j, cx.str e1, cy.str e2, line_le h.1, k _ h.2 _ J H (.refl s) ri_str⟩
  · exact h.elim) ha hb
theorem xe_repS (ha : XE X a F) (hb : XE X b G) : XE X (.BinOp a .Mult b pos) (dOp oRepS F G) := xe_op op_repS (fun J H x y v w P Q s cx cy h k => by
  unfold oRepS at h
  split at h
  · rename_i i j e1 e2
    exact ⟨i, j, cx.str e1, cy.int e2, h.1, h.2.1, h.2.2.1, k _ h.2.2.2 _ J H (.refl s) ri_str⟩
  · exact h.elim) ha hb
theorem xe_idx (ha : XE X a F) (hb : XE X b G) (hs : PlainIx b := by exact fun _ _ => rfl) : XE X (.Subscript a b pos) (dOp oIx F G) := xe_ix ix_seq l_ix ha hb hs
theorem xo_none : XO X none dNoPart := ⟨fun pins s σ H Q I h => po_none.run pins s σ H Q I (by
  obtain ⟨J, ρ, P, k, h1, h2⟩ := h
  exact h2 _ h1 J H (.refl k.s))⟩
theorem xo_some (h : XE X e F) : XO X (some e) (dPart F) := ⟨fun pins s σ H Q I hh => (po_some h).run pins s σ H Q I (by
  obtain ⟨J, ρ, P, k, h1, h2⟩ := hh
  refine ⟨J, ρ, _, k, h1, fun r hr v J1 H1 e1 r1 => ?_⟩
  split at hr
  · rename_i i ei
    exact ⟨i, r1.cur.int ei, h2 _ hr J1 H1 e1⟩
  · exact hr.elim)⟩
theorem xe_slice (ha : XE X a F) (hl : XO X lo L) (hu : XO X hi U) : XE X (.Subscript a (.Slice lo hi none p2) pos) (dSl F L U) := pe_weak (pe_slice (SlR.or sl_list sl_str) ha hl hu) fun σ H Q h => by
  obtain ⟨J, ρ, P, k, h1, h2⟩ := h
  refine ⟨J, ρ, _, k, h1, fun r hr v J1 H1 e1 r1 => ⟨J1, ρ, _, k.ext e1, hr, fun l hl J2 H2 e2 => ⟨J2, ρ, _, (k.ext e1).ext e2, hl, fun u hu J3 H3 e3 => ?_⟩⟩⟩
  have e13 := e1.trans (e2.trans e3)
  have c3 := (r1.ext (e2.trans e3)).cur
  split at hu
  · rename_i ds ed
    obtain ⟨p, vs, rfl, hp, rs⟩ := c3.lst e3.s ed
    refine .inl ⟨p, vs, rfl, SqL.of hp, fun q hq => h2 _ hu _ J3 _ (e13.trans (Ext.new e3.s hq)) ((new_lst e3.s hq ?_).back e13)⟩
    unfold cutD L2.cutV
    rw [← rs.len]
    exact (rs.drop _).take _
  · rename_i z ez
    exact .inr ⟨z, c3.str ez, line_le hu.1, h2 _ hu.2 _ J3 H3 e13 (by show Rep _ _ _; unfold cutD; simp only [Rep]; unfold cutS; rw [show z.cps.toList.length = z.length from Array.length_toList])⟩
  · exact hu.elim
theorem xe_rev {kk : Nat} {q1 q2 : Pos} (ha : XE X a F) : XE X (.Subscript a (.Slice none none (some (.UnaryOp .USub (.Constant (.int 1) kk q1) q2)) p3) pos) (dRev F) := pe_weak (pe_revL ha) fun σ H Q h => by
  obtain ⟨J, ρ, P, k, h1, h2⟩ := h
  refine ⟨J, ρ, _, k, h1, fun r hr v J1 H1 e1 r1 => ?_⟩
  split at hr
  · rename_i ds ed
    obtain ⟨p, vs, rfl, hp, rs⟩ := r1.cur.lst e1.s ed
    exact ⟨p, vs, rfl, SqL.of hp, fun q hq => h2 _ hr _ J1 _ (e1.trans (Ext.new e1.s hq)) ((new_lst e1.s hq rs.reverse).back e1)⟩
  · exact hr.elim
/-! ### lists -/
def oCat (x y : R) (P : R → Prop) : Prop := match x.d, y.d with
  | .lst ds, .lst es => ds.length + es.length ≤ 100000 ∧ P (.nw (.lst (ds ++ es)))
  | _, _ => False
def oRep (x y : R) (P : R → Prop) : Prop := match x.d, y.d with
  | .lst ds, .int n => -1000 ≤ n ∧ n ≤ 1000 ∧ ds.length * n.toNat ≤ 100000 ∧ P (.nw (.lst (List.replicate n.toNat ds).flatten))
  | _, _ => False
theorem xe_cat (ha : XE X a F) (hb : XE X b G) : XE X (.BinOp a .Add b pos) (dOp oCat F G) := xe_op op_cat (fun J H x y v w P Q s cx cy h k => by
  unfold oCat at h
  split at h
  · rename_i ds es e1 e2
    obtain ⟨p, vs, rfl, hp, rs⟩ := cx.lst s e1
    obtain ⟨q, ws, rfl, hq, rt⟩ := cy.lst s e2
    exact ⟨p, q, vs, ws, rfl, rfl, hp, hq, by rw [← rs.len, ← rt.len]; exact line_le h.1, fun l hl => k _ h.2 _ J _ (Ext.new s hl) (new_lst s hl (rs.append rt))⟩
  · exact h.elim) ha hb
theorem xe_rep (ha : XE X a F) (hb : XE X b G) : XE X (.BinOp a .Mult b pos) (dOp oRep F G) := xe_op op_rep (fun J H x y v w P Q s cx cy h k => by
  unfold oRep at h
  split at h
  · rename_i ds n e1 e2
    obtain ⟨p, vs, rfl, hp, rs⟩ := cx.lst s e1
    exact ⟨p, n, vs, rfl, cy.int e2, hp, by omega, by omega, by rw [← rs.len]; exact line_le h.2.2.1, fun l hl => k _ h.2.2.2 _ J _ (Ext.new s hl) (new_lst s hl (rs.rep _))⟩
  · exact h.elim) ha hb
/-! ### built-in functions -/
abbrev call1 (f : RD1) (rs : List R) (P : R → Prop) : Prop := match rs with
  | [r] => f r P
  | _ => False
abbrev call2 (f : RD2) (rs : List R) (P : R → Prop) : Prop := match rs with
  | [r, s] => f r s P
  | _ => False
theorem curs1 {J H : Hp} {r : R} {vs : List V} (h : Curs J H [r] vs) : ∃ v, vs = [v] ∧ Cur J H r v := by
  cases h with
  | cons a b => cases b; exact ⟨_, rfl, a⟩
theorem curs2 {J H : Hp} {r s : R} {vs : List V} (h : Curs J H [r, s] vs) : ∃ v w, vs = [v, w] ∧ Cur J H r v ∧ Cur J H s w := by
  cases h with
  | cons a b =>
    cases b with
    | cons c d => cases d; exact ⟨_, _, rfl, a, c⟩
theorem liftA1 {r : List V → Hp → VK → Prop} {f : RD1} (h : Lift1 (fun v H Q => r [v] H Q) f) : LiftA r (call1 f) := fun J H xs vs P Q s cs hf k => by
  match xs, hf with
  | [x], hf =>
    obtain ⟨v, rfl, c⟩ := curs1 cs
    exact h J H x v P Q s c hf k
  | [], hf => exact hf.elim
  | _ :: _ :: _, hf => exact hf.elim
theorem liftA2 {r : List V → Hp → VK → Prop} {f : RD2} (h : Lift2 (fun v w H Q => r [v, w] H Q) f) : LiftA r (call2 f) := fun J H xs vs P Q s cs hf k => by
  match xs, hf with
  | [x, y], hf =>
    obtain ⟨v, w, rfl, c, d⟩ := curs2 cs
    exact h J H x y v w P Q s c d hf k
  | [], hf => exact hf.elim
  | [_], hf => exact hf.elim
  | _ :: _ :: _ :: _, hf => exact hf.elim
variable {x : Str} {p : Pos} {es : List Expr} {A : DA} {id T : String}
theorem xe_callB {r : List V → Hp → VK → Prop} {f : RDA} (hc : CallR X (.builtin id) r) (l : LiftA r f) (hg : Gl X x) (hm : X.mg x = none) (hv : bootBuiltins x = some (.builtin id)) (ha : XA X (e :: es) A) (hn : x ≠ "__name__" := by decide) (hdb : (x == ("__debug__" : Str)) = false := by decide)
    (he : starEach (e :: es) X.env = (false, eval e X.env) :: starEach es X.env := by rfl) (hpl : (backTo pos (starEach es X.env)).any (·.1) = false := by rfl) : XE X (.Call (.Name x p) (e :: es) [] pos) (dCB f A) :=
  pe_weak (pe_callB hc hg hm hv ha hn hdb he hpl) fun σ H Q h => up_cb l h
theorem xe_callTy {r : List V → Hp → VK → Prop} {f : RDA} (hc : CallR X (.type T) r) (l : LiftA r f) (hg : Gl X x) (hm : X.mg x = none) (hv : bootBuiltins x = some (.type T)) (ha : XA X (e :: es) A) (hn : x ≠ "__name__" := by decide) (hdb : (x == ("__debug__" : Str)) = false := by decide)
    (he : starEach (e :: es) X.env = (false, eval e X.env) :: starEach es X.env := by rfl) (hpl : (backTo pos (starEach es X.env)).any (·.1) = false := by rfl) : XE X (.Call (.Name x p) (e :: es) [] pos) (dCB f A) :=
  pe_weak (pe_callTy hc hg hm hv ha hn hdb he hpl) fun σ H Q h => up_cb l h
def fLen (x : R) (P : R → Prop) : Prop := match x.d with
  | .lst ds => P (.im (.int ds.length))
  | .tup ds => P (.im (.int ds.length))
  | .str z => z.length ≤ 100000 ∧ P (.im (.int z.length))
  | _ => False
theorem l_len {K : PySem.W.Frag} : Lift1 (fun v H Q => (fun xs H Q => ∃ x n, xs = [x] ∧ LenV K x H n ∧ Q (.int n) H : List V → Hp → VK → Prop) [v] H Q) fLen := fun J H x v P Q s cx h k => by
  unfold fLen at h
  split at h
  · rename_i ds e
    obtain ⟨p, vs, rfl, hp, rs⟩ := cx.lst s e
    exact ⟨_, ds.length, rfl, .inl ⟨vs, SqL.of hp, rs.len⟩, k _ h _ J H (.refl s) ri_int⟩
  · rename_i ds e
    obtain ⟨p, vs, rfl, hp, rs, _⟩ := cx.tup s e
    exact ⟨_, ds.length, rfl, .inr ⟨vs, SqT.of hp, rs.len⟩, k _ h _ J H (.refl s) ri_int⟩
  · rename_i z e
    have ev := cx.str e
    subst ev
    exact ⟨.str z, z.length, rfl, ⟨line_le h.1, rfl⟩, k _ h.2 _ J H (.refl s) ri_int⟩
  · exact h.elim
theorem xe_len (hg : Gl X "len") (hm : X.mg "len" = none) (ha : XA X [e] A) (he : starEach [e] X.env = (false, eval e X.env) :: starEach [] X.env := by rfl) : XE X (.Call (.Name "len" p) [e] [] pos) (dCB (call1 fLen) A) :=
  xe_callB call_len (liftA1 l_len) hg hm PySem.boot_len ha (he := he)
def fAbs (x : R) (P : R → Prop) : Prop := match x.d with
  | .int i => P (.im (.int (if i < 0 then -i else i)))
  | _ => False
theorem xe_abs (hg : Gl X "abs") (hm : X.mg "abs" = none) (ha : XA X [e] A) (he : starEach [e] X.env = (false, eval e X.env) :: starEach [] X.env := by rfl) : XE X (.Call (.Name "abs" p) [e] [] pos) (dCB (call1 fAbs) A) :=
  xe_callB call_abs (liftA1 fun J H x v P Q s cx h k => by
    unfold fAbs at h
    split at h
    · rename_i i e
      exact ⟨i, by rw [cx.int e], k _ h _ J H (.refl s) ri_int⟩
    · exact h.elim) hg hm (by decide +kernel) ha (he := he)
def fInt (x : R) (P : R → Prop) : Prop := match x.d with
  | .int i => P (.im (.int i))
  | .bl b => P (.im (.int (if b then 1 else 0)))
  | _ => False
theorem xe_toInt (hg : Gl X "int") (hm : X.mg "int" = none) (ha : XA X [e] A) (he : starEach [e] X.env = (false, eval e X.env) :: starEach [] X.env := by rfl) : XE X (.Call (.Name "int" p) [e] [] pos) (dCB (call1 fInt) A) :=
  xe_callTy call_int1 (liftA1 fun J H x v P Q s cx h k => by
    unfold fInt at h
    split at h
    · rename_i i e
      exact .inl ⟨i, by rw [cx.int e], k _ h _ J H (.refl s) ri_int⟩
    · rename_i i e
      exact .inr ⟨i, by rw [cx.bl e], k _ h _ J H (.refl s) ri_int⟩
    · exact h.elim) hg hm (by decide +kernel) ha (he := he)
def fMin2 (x y : R) (P : R → Prop) : Prop := match x.d, y.d with
  | .int i, .int j => P (.im (.int (if j < i then j else i)))
  | _, _ => False
def fMax2 (x y : R) (P : R → Prop) : Prop := match x.d, y.d with
  | .int i, .int j => P (.im (.int (if j > i then j else i)))
  | _, _ => False
theorem xe_min2 {e2 : Expr} (hc : X.calm = true) (hg : Gl X "min") (hm : X.mg "min" = none) (ha : XA X [e, e2] A) (he : starEach [e, e2] X.env = (false, eval e X.env) :: starEach [e2] X.env := by rfl) (hpl : (backTo pos (starEach [e2] X.env)).any (·.1) = false := by rfl) : XE X (.Call (.Name "min" p) [e, e2] [] pos) (dCB (call2 fMin2) A) :=
  xe_callB (call_min2 hc) (liftA2 fun J H x y v w P Q s cx cy h k => by
    unfold fMin2 at h
    split at h
    · rename_i i j e1 e2
      exact ⟨i, j, by rw [cx.int e1, cy.int e2], k _ h _ J H (.refl s) ri_int⟩
    · exact h.elim) hg hm (by decide +kernel) ha (he := he) (hpl := hpl)
theorem xe_max2 {e2 : Expr} (hc : X.calm = true) (hg : Gl X "max") (hm : X.mg "max" = none) (ha : XA X [e, e2] A) (he : starEach [e, e2] X.env = (false, eval e X.env) :: starEach [e2] X.env := by rfl) (hpl : (backTo pos (starEach [e2] X.env)).any (·.1) = false := by rfl) : XE X (.Call (.Name "max" p) [e, e2] [] pos) (dCB (call2 fMax2) A) :=
  xe_callB (call_max2 hc) (liftA2 fun J H x y v w P Q s cx cy h k => by
    unfold fMax2 at h
    split at h
    · rename_i i j e1 e2
      exact ⟨i, j, by rw [cx.int e1, cy.int e2], k _ h _ J H (.refl s) ri_int⟩
    · exact h.elim) hg hm (by decide +kernel) ha (he := he) (hpl := hpl)
end
/-! ### lists of ints, bools, texts -/
def intsD : List D → Option (List Int)
  | [] => some []
  | .int i :: ds => (intsD ds).map (i :: ·)
  | _ :: _ => none
def blsD : List D → Option (List Bool)
  | [] => some []
  | .bl i :: ds => (blsD ds).map (i :: ·)
  | _ :: _ => none
def strsD : List D → Option (List Str)
  | [] => some []
  | .str i :: ds => (strsD ds).map (i :: ·)
  | _ :: _ => none
theorem intsD_map {α : Type} (f : α → Int) : ∀ l : List α, intsD (l.map fun a => D.int (f a)) = some (l.map f)
  | [] => rfl
  | a :: l => by
    show (intsD (l.map fun a => D.int (f a))).map (f a :: ·) = _
    rw [intsD_map f l]
    rfl
theorem blsD_map {α : Type} (f : α → Bool) : ∀ l : List α, blsD (l.map fun a => D.bl (f a)) = some (l.map f)
  | [] => rfl
  | a :: l => by
    show (blsD (l.map fun a => D.bl (f a))).map (f a :: ·) = _
    rw [blsD_map f l]
    rfl
theorem strsD_map {α : Type} (f : α → Str) : ∀ l : List α, strsD (l.map fun a => D.str (f a)) = some (l.map f)
  | [] => rfl
  | a :: l => by
    show (strsD (l.map fun a => D.str (f a))).map (f a :: ·) = _
    rw [strsD_map f l]
    rfl
theorem intsD_ok : ∀ {ds : List D} {ns : List Int}, intsD ds = some ns → ds = ns.map D.int
  | [], ns, h => by cases h; rfl
  | .int i :: ds, ns, h => by
    obtain ⟨m, h1, rfl⟩ := Option.map_eq_some_iff.mp (show (intsD ds).map (i :: ·) = some ns from h)
    rw [intsD_ok h1]
    rfl
  | .non :: _, _, h => by cases h
  | .bl _ :: _, _, h => by cases h
  | .str _ :: _, _, h => by cases h
  | .at _ :: _, _, h => by cases h
  | .ty _ :: _, _, h => by cases h
  | .lst _ :: _, _, h => by cases h
  | .tup _ :: _, _, h => by cases h
  | .dK _ _ :: _, _, h => by cases h
  | .dT _ _ :: _, _, h => by cases h
  | .ins _ _ _ :: _, _, h => by cases h
theorem blsD_ok : ∀ {ds : List D} {ns : List Bool}, blsD ds = some ns → ds = ns.map D.bl
  | [], ns, h => by cases h; rfl
  | .bl i :: ds, ns, h => by
    obtain ⟨m, h1, rfl⟩ := Option.map_eq_some_iff.mp (show (blsD ds).map (i :: ·) = some ns from h)
    rw [blsD_ok h1]
    rfl
  | .non :: _, _, h => by cases h
  | .int _ :: _, _, h => by cases h
  | .str _ :: _, _, h => by cases h
  | .at _ :: _, _, h => by cases h
  | .ty _ :: _, _, h => by cases h
  | .lst _ :: _, _, h => by cases h
  | .tup _ :: _, _, h => by cases h
  | .dK _ _ :: _, _, h => by cases h
  | .dT _ _ :: _, _, h => by cases h
  | .ins _ _ _ :: _, _, h => by cases h
theorem strsD_ok : ∀ {ds : List D} {ns : List Str}, strsD ds = some ns → ds = ns.map D.str
  | [], ns, h => by cases h; rfl
  | .str i :: ds, ns, h => by
    obtain ⟨m, h1, rfl⟩ := Option.map_eq_some_iff.mp (show (strsD ds).map (i :: ·) = some ns from h)
    rw [strsD_ok h1]
    rfl
  | .non :: _, _, h => by cases h
  | .int _ :: _, _, h => by cases h
  | .bl _ :: _, _, h => by cases h
  | .at _ :: _, _, h => by cases h
  | .ty _ :: _, _, h => by cases h
  | .lst _ :: _, _, h => by cases h
  | .tup _ :: _, _, h => by cases h
  | .dK _ _ :: _, _, h => by cases h
  | .dT _ _ :: _, _, h => by cases h
  | .ins _ _ _ :: _, _, h => by cases h
section
variable {X : Cx} {a b e e2 : Expr} {F G : DE} {pos p p2 p3 apos : Pos} {A : DA}
def fSum (x : R) (P : R → Prop) : Prop := match x.d with
  | .lst ds => (match intsD ds with
    | some ns => P (.im (.int ns.sum))
    | none => False)
  | _ => False
theorem xe_sum (hc : X.calm = true) (hg : Gl X "sum") (hm : X.mg "sum" = none) (ha : XA X [e] A) (he : starEach [e] X.env = (false, eval e X.env) :: starEach [] X.env := by rfl) : XE X (.Call (.Name "sum" p) [e] [] pos) (dCB (call1 fSum) A) :=
  xe_callB (cr_sum hc) (liftA1 fun J H x v P Q s cx h k => by
    unfold fSum at h
    split at h
    · rename_i ds e
      split at h
      · rename_i ns en
        obtain ⟨p, vs, rfl, hp, rs⟩ := cx.lst s e
        rw [intsD_ok en] at rs
        exact ⟨p, ns, rfl, by rw [← rs.ints]; exact SqL.of hp, k _ h _ J H (.refl s) ri_int⟩
      · exact h.elim
    · exact h.elim) hg hm (by decide +kernel) ha (he := he)
def fAny (x : R) (P : R → Prop) : Prop := match x.d with
  | .lst ds => (match blsD ds with
    | some ns => P (.im (.bl (ns.any id)))
    | none => False)
  | _ => False
def fAll (x : R) (P : R → Prop) : Prop := match x.d with
  | .lst ds => (match blsD ds with
    | some ns => P (.im (.bl (ns.all id)))
    | none => False)
  | _ => False
theorem xe_any (hc : X.calm = true) (hg : Gl X "any") (hm : X.mg "any" = none) (ha : XA X [e] A) (he : starEach [e] X.env = (false, eval e X.env) :: starEach [] X.env := by rfl) : XE X (.Call (.Name "any" p) [e] [] pos) (dCB (call1 fAny) A) :=
  xe_callB (cr_any hc) (liftA1 fun J H x v P Q s cx h k => by
    unfold fAny at h
    split at h
    · rename_i ds e
      split at h
      · rename_i ns en
        obtain ⟨p, vs, rfl, hp, rs⟩ := cx.lst s e
        rw [blsD_ok en] at rs
        exact ⟨p, ns, rfl, by rw [← rs.bls]; exact SqL.of hp, k _ h _ J H (.refl s) ri_bl⟩
      · exact h.elim
    · exact h.elim) hg hm (by decide +kernel) ha (he := he)
theorem xe_all (hc : X.calm = true) (hg : Gl X "all") (hm : X.mg "all" = none) (ha : XA X [e] A) (he : starEach [e] X.env = (false, eval e X.env) :: starEach [] X.env := by rfl) : XE X (.Call (.Name "all" p) [e] [] pos) (dCB (call1 fAll) A) :=
  xe_callB (cr_all hc) (liftA1 fun J H x v P Q s cx h k => by
    unfold fAll at h
    split at h
    · rename_i ds e
      split at h
      · rename_i ns en
        obtain ⟨p, vs, rfl, hp, rs⟩ := cx.lst s e
        rw [blsD_ok en] at rs
        exact ⟨p, ns, rfl, by rw [← rs.bls]; exact SqL.of hp, k _ h _ J H (.refl s) ri_bl⟩
      · exact h.elim
    · exact h.elim) hg hm (by decide +kernel) ha (he := he)
/-- the least of some ints -/
def leastOf : List Int → Option Int
  | [] => none
  | n :: ns => some (ns.foldl min n)
def fMin (x : R) (P : R → Prop) : Prop := match x.d with
  | .lst ds => (match intsD ds with
    | some ns => (match leastOf ns with
      | some m => P (.im (.int m))
      | none => False)
    | none => False)
  | _ => False
theorem foldl_min_mem : ∀ (ns : List Int) (n : Int), ns.foldl min n ∈ n :: ns
  | [], n => List.mem_singleton.mpr rfl
  | m :: ns, n => by
    rw [List.foldl_cons]
    have h := foldl_min_mem ns (min n m)
    rcases List.mem_cons.mp h with e | e
    · rw [e]
      rcases Int.le_total n m with q | q
      · rw [Int.min_eq_left q]; exact List.mem_cons_self
      · rw [Int.min_eq_right q]; exact List.mem_cons_of_mem _ List.mem_cons_self
    · exact List.mem_cons_of_mem _ (List.mem_cons_of_mem _ e)
theorem foldl_min_le : ∀ (ns : List Int) (n : Int), ns.foldl min n ≤ n ∧ ∀ y ∈ ns, ns.foldl min n ≤ y
  | [], n => ⟨Int.le_refl _, fun y h => nomatch h⟩
  | m :: ns, n => by
    rw [List.foldl_cons]
    obtain ⟨h1, h2⟩ := foldl_min_le ns (min n m)
    refine ⟨by omega, fun y hy => ?_⟩
    rcases List.mem_cons.mp hy with e | e
    · rw [e]; omega
    · exact h2 y e
theorem least_is {ns : List Int} {m k : Int} (h : leastOf ns = some k) (hm : m ∈ ns) (hl : ∀ y, y ∈ ns → m ≤ y) : m = k := by
  cases ns with
  | nil => cases h
  | cons n ns =>
    have e : ns.foldl min n = k := Option.some.inj h
    have h1 := hl k (by rw [← e]; exact foldl_min_mem ns n)
    obtain ⟨h2, h3⟩ := foldl_min_le ns n
    rw [e] at h2 h3
    rcases List.mem_cons.mp hm with q | q
    · omega
    · have := h3 m q
      omega
theorem xe_min (hc : X.calm = true) (hg : Gl X "min") (hm : X.mg "min" = none) (ha : XA X [e] A) (he : starEach [e] X.env = (false, eval e X.env) :: starEach [] X.env := by rfl) : XE X (.Call (.Name "min" p) [e] [] pos) (dCB (call1 fMin) A) :=
  xe_callB (cr_min hc) (liftA1 fun J H x v P Q s cx h k => by
    unfold fMin at h
    split at h
    · rename_i ds e
      split at h
      · rename_i ns en
        split at h
        · rename_i m em
          obtain ⟨p, vs, rfl, hp, rs⟩ := cx.lst s e
          rw [intsD_ok en] at rs
          refine ⟨p, ns, rfl, by rw [← rs.ints]; exact SqL.of hp, ?_, fun m' h1 h2 => ?_⟩
          · cases ns with
            | nil => cases em
            | cons _ _ => exact Nat.succ_pos _
          · rw [least_is em h1 h2]
            exact k _ h _ J H (.refl s) ri_int
        · exact h.elim
      · exact h.elim
    · exact h.elim) hg hm (by decide +kernel) ha (he := he)
end
end Dl
set_option Elab.async false
set_option linter.all false
set_option maxRecDepth 100000
set_option maxHeartbeats 4000000
/-! The data layer: methods, dicts, sorts, isinstance, fields. -/
namespace Dl
open PySem PySem.Spec PyProof.Rows L2

/-! ### least and greatest with a default -/
def leastD (ns : List Int) (d : D) : D := match ns with
  | [] => d
  | n :: ns => .int (ns.foldl min n)
def rMinKw (K : PySem.W.Frag) : List V → List V → Hp → VK → Prop := fun vs zs H Q => ∃ (a : Addr) (ns : List Int) (z : V), vs = [V.ref a] ∧ zs = [z] ∧ SqL K H a (ns.map V.int) ∧
  Q (match ns with
    | [] => z
    | n :: r => .int (r.foldl min n)) H
theorem alike_intsA (ns : List Int) : PySem.W.AlikeAll (ns.map PyData.int) := by
  refine ⟨fun x hx y hy => ?_, fun x hx => ?_⟩
  · obtain ⟨i, _, rfl⟩ := List.mem_map.mp hx
    obtain ⟨j, _, rfl⟩ := List.mem_map.mp hy
    simp [PySem.W.alike]
  · obtain ⟨i, _, rfl⟩ := List.mem_map.mp hx
    exact fun z => nomatch z
theorem cr_minD {X : Cx} (hc : X.calm = true) (hu : X.A.units + 64 < cLine) : CallRK X (.builtin "min") [Str.ofString "default"] (rMinKw X.K) := by
  intro pins s σ H vs zs us ws Q I r rz h
  obtain ⟨a, ns, z, rfl, rfl, hs, q⟩ := h
  obtain rfl := Vals.ref1 r
  obtain ⟨w1, rfl, e1⟩ := vals1 rz
  obtain ⟨its, rv, hl, _⟩ := I.list hs
  have hi := rv.ints
  have hd : PyData.depthAll (ns.map PyData.int) ≤ 1 := PySem.W.depthAll_ints ns
  refine PySem.W.min_list_default (I.ok.hd hc) hl.isList (xs := ns.map PyData.int) (as := []) (by rw [List.toList_toArray]; exact PySem.W.readsAll_of_ints hi) (alike_intsA ns) (by omega) (fun e h' tk hk => ?_) (fun y ys i v h' tk bs e hv hr hk => ?_)
  · cases ns with
    | nil => exact ⟨z, H, I.kept hk, e1, q⟩
    | cons n ns => cases e
  · cases ns with
    | nil => cases e
    | cons n ns =>
      rw [List.map_cons] at e
      injection e with e2 e3
      subst e2 e3
      rw [PySem.W.minD_ints] at hr
      cases hr
      exact ⟨.int _, H, I.kept hk, ⟨_, rfl⟩, q⟩
def fMinD (x z : R) (P : R → Prop) : Prop := match x.d, z with
  | .lst ds, .im dz => (match intsD ds with
    | some ns => P (.im (leastD ns dz))
    | none => False)
  | _, _ => False
section
variable {X : Cx} {a b e e2 : Expr} {F G : DE} {pos p p2 p3 apos cpos kp : Pos} {A : DA}
theorem xe_minD (hc : X.calm = true) (hu : X.A.units + 64 < cLine) (hg : Gl X "min") (hm : X.mg "min" = none) (ha : XE X e F) (hb : XE X e2 G)
    (hk : PE X (.Call (.Name "min" p) [e] [⟨some "default", e2, kp⟩] pos) (tCKw (rMinKw X.K) (tCons (up F) tNil) (tCons (up G) tNil))) :
    XE X (.Call (.Name "min" p) [e] [⟨some "default", e2, kp⟩] pos) (dOp fMinD F G) := pe_weak hk fun σ H Q h => by
  obtain ⟨J, ρ, P, k, h1, h2⟩ := h
  refine ⟨J, ρ, _, k, h1, fun x hx v J1 H1 e1 r1 => ?_⟩
  refine ⟨J1, ρ, _, k.ext e1, hx, fun z hz w J2 H2 e2 r2 => ?_⟩
  unfold fMinD at hz
  split at hz
  · rename_i ds dz e3
    split at hz
    · rename_i ns en
      obtain ⟨p, vs, rfl, hp, rs⟩ := (r1.ext e2).cur.lst e2.s e3
      rw [intsD_ok en] at rs
      have rw2 : Rep J2 dz w := r2
      refine ⟨p, ns, w, rfl, rfl, by rw [← rs.ints]; exact SqL.of hp, ?_⟩
      refine h2 _ hz _ J2 H2 (e1.trans e2) ?_
      cases ns with
      | nil => exact rw2
      | cons n ns => exact ri_int
    · exact hz.elim
  · exact hz.elim
/-! ### sorted texts -/
def fSortS (x : R) (P : R → Prop) : Prop := match x.d with
  | .lst ds => (match strsD ds with
    | some xs => xs.length < 64 ∧ ∀ ys : List Str, ys.Perm xs → sortedS ys = true → P (.nw (.lst (ys.map D.str)))
    | none => False)
  | _ => False
theorem xe_sortS (hg : Gl X "sorted") (hm : X.mg "sorted" = none) (ha : XA X [e] A) (he : starEach [e] X.env = (false, eval e X.env) :: starEach [] X.env := by rfl) : XE X (.Call (.Name "sorted" p) [e] [] pos) (dCB (call1 fSortS) A) :=
  xe_callB cr_sortedS (liftA1 fun J H x v P Q s cx h k => by
    unfold fSortS at h
    split at h
    · rename_i ds e
      split at h
      · rename_i xs en
        obtain ⟨p, vs, rfl, hp, rs⟩ := cx.lst s e
        rw [strsD_ok en] at rs
        exact ⟨p, xs, rfl, by rw [← rs.strs]; exact SqL.of hp, h.1, fun ys q pm so hq => k _ (h.2 ys pm so) _ J _ (Ext.new s hq) (new_lst s hq Reps.of_strs)⟩
      · exact h.elim
    · exact h.elim) hg hm (by decide +kernel) ha (he := he)
def fSortI (x : R) (P : R → Prop) : Prop := match x.d with
  | .lst ds => (match intsD ds with
    | some xs => xs.length < 64 ∧ ∀ ys : List Int, ys.Perm xs → ys.Pairwise (· ≤ ·) → P (.nw (.lst (ys.map D.int)))
    | none => False)
  | .dK ks _ => ∃ xs : List Int, ks = xs.map Sum.inl ∧ xs.length < 64 ∧ ∀ ys : List Int, ys.Perm xs → ys.Pairwise (· ≤ ·) → P (.nw (.lst (ys.map D.int)))
  | _ => False
/-! ### list(x), dict(x) -/
def keyV : Key → D
  | .inl i => .int i
  | .inr z => .str z
theorem reps_keys {J : Hp} : ∀ ks : List Key, Reps J (ks.map keyV) (ks.map kV)
  | [] => Reps.nil
  | k :: ks => Reps.cons (by cases k <;> simp only [keyV, kV, Rep]) (reps_keys ks)
def fList (x : R) (P : R → Prop) : Prop := match x.d with
  | .lst ds => P (.nw (.lst ds))
  | .tup ds => P (.nw (.lst ds))
  | .dK ks _ => P (.nw (.lst (ks.map keyV)))
  | _ => False
theorem xe_list (hc : X.calm = true) (hg : Gl X "list") (hm : X.mg "list" = none) (ha : XA X [e] A) (he : starEach [e] X.env = (false, eval e X.env) :: starEach [] X.env := by rfl) : XE X (.Call (.Name "list" p) [e] [] pos) (dCB (call1 fList) A) :=
  xe_callTy (CallR.or call_list_of (call_listD hc)) (liftA1 fun J H x v P Q s cx h k => by
    unfold fList at h
    split at h
    · rename_i ds e
      obtain ⟨p, vs, rfl, hp, rs⟩ := cx.lst s e
      exact .inl ⟨p, vs, rfl, .inl (SqL.of hp), fun l hl => k _ h _ J _ (Ext.new s hl) (new_lst s hl rs)⟩
    · rename_i ds e
      obtain ⟨p, vs, rfl, hp, rs, _⟩ := cx.tup s e
      exact .inl ⟨p, vs, rfl, .inr (SqT.of hp), fun l hl => k _ h _ J _ (Ext.new s hl) (new_lst s hl rs)⟩
    · rename_i ks ds e
      obtain ⟨p, kvs, rfl, hp, rfl, rs⟩ := cx.dK s e
      refine .inr ⟨p, kvs, rfl, .inl hp, fun l hl => k _ h _ J _ (Ext.new s hl) (new_lst s hl ?_)⟩
      have e : (kvs.map fun kv => kV kv.1) = (kvs.map (·.1)).map kV := by rw [List.map_map] <;> rfl
      rw [e]
      exact reps_keys _
    · exact h.elim) hg hm (by decide +kernel) ha (he := he)
def fDict (x : R) (P : R → Prop) : Prop := match x.d with
  | .dK ks ds => P (.nw (.dK ks ds))
  | _ => False
theorem xe_dict (hg : Gl X "dict") (hm : X.mg "dict" = none) (ha : XA X [e] A) (he : starEach [e] X.env = (false, eval e X.env) :: starEach [] X.env := by rfl) : XE X (.Call (.Name "dict" p) [e] [] pos) (dCB (call1 fDict) A) :=
  xe_callTy call_dictD (liftA1 fun J H x v P Q s cx h k => by
    unfold fDict at h
    split at h
    · rename_i ks ds e
      obtain ⟨p, kvs, rfl, hp, rfl, rs⟩ := cx.dK s e
      exact ⟨p, kvs, rfl, .inl hp, fun l hl => k _ h _ J _ (Ext.new s hl) (new_dK s hl rfl rs)⟩
    · exact h.elim) hg hm (by decide +kernel) ha (he := he)
/-! ### texts' methods -/
def oBM (f : R → R → (R → Prop) → Prop) := f
theorem xe_bm1 {T : String} {name : Str} {id : String} {r : V → List V → Hp → VK → Prop} {f : RD2} (l : ∀ (J H : Hp) (x y : R) (v w : V) (P : R → Prop) (Q : VK), Same J H → Cur J H x v → Cur J H y w → f x y P → (∀ r, P r → ∀ z J' H', Ext J H J' H' → RepR J H J' H' r z → Q z H') → r v [w] H Q)
    (ty : ∀ (J H : Hp) (x : R) (v : V) (y : R) (P : R → Prop), Same J H → Cur J H x v → f x y P → tyV X.K T v H)
    (nf : ∀ (x : R) (ρ : Env) (P : R → Prop), (G ρ fun y => f x y P) → ∃ y P', f x y P')
    (hb : PE X (.Call (.Attribute a name apos) [b] [] cpos) (tBM X.K T r (up F) (tCons (up G) tNil))) : XE X (.Call (.Attribute a name apos) [b] [] cpos) (dOp f F G) := pe_weak hb fun σ H Q h => by
  obtain ⟨J, ρ, P, k, h1, h2⟩ := h
  refine ⟨J, ρ, _, k, h1, fun x hx v J1 H1 e1 r1 => ?_⟩
  obtain ⟨y0, P0, hy0⟩ := nf x ρ _ hx
  refine ⟨ty J1 H1 x v y0 P0 e1.s r1.cur hy0, J1, ρ, _, k.ext e1, hx, fun y hy w J2 H2 e2 r2 => ?_⟩
  exact l J2 H2 x y v w P Q e2.s (r1.ext e2).cur r2.cur hy fun z hz u J3 H3 e3 r3 => h2 z hz u J3 H3 ((e1.trans e2).trans e3) (r3.back (e1.trans e2))
/-- text.m(text) -/
def dStrM (f : Str → R → (R → Prop) → Prop) (F G : DE) (ρ : Env) (P : R → Prop) : Prop := F ρ fun x => match x.d with
  | .str z => G ρ fun y => f z y P
  | _ => False
theorem xe_strM {name : Str} {id : String} {r : V → List V → Hp → VK → Prop} {f : Str → R → (R → Prop) → Prop} (l : ∀ (J H : Hp) (z : Str) (y : R) (w : V) (P : R → Prop) (Q : VK), Same J H → Cur J H y w → f z y P → (∀ r, P r → ∀ u J' H', Ext J H J' H' → RepR J H J' H' r u → Q u H') → r (.str z) [w] H Q)
    (hb : PE X (.Call (.Attribute a name apos) [b] [] cpos) (tBM X.K "str" r (up F) (tCons (up G) tNil))) : XE X (.Call (.Attribute a name apos) [b] [] cpos) (dStrM f F G) := pe_weak hb fun σ H Q h => by
  obtain ⟨J, ρ, P, k, h1, h2⟩ := h
  refine ⟨J, ρ, _, k, h1, fun x hx v J1 H1 e1 r1 => ?_⟩
  split at hx
  · rename_i z ez
    have ev := r1.cur.str ez
    subst ev
    refine ⟨rfl, J1, ρ, _, k.ext e1, hx, fun y hy w J2 H2 e2 r2 => ?_⟩
    exact l J2 H2 z y w P Q e2.s r2.cur hy fun z hz u J3 H3 e3 r3 => h2 z hz u J3 H3 ((e1.trans e2).trans e3) (r3.back (e1.trans e2))
  · exact hx.elim
def fJoin (z : Str) (y : R) (P : R → Prop) : Prop := match y.d with
  | .lst ds => (match strsD ds with
    | some ys => (ys.map (·.length)).sum + ys.length * z.length ≤ 16777216 ∧ P (.im (.str (Txt.join z ys)))
    | none => False)
  | _ => False
theorem xe_join (ha : XE X a F) (hb : XE X b G)
    (h : PE X (.Call (.Attribute a "join" apos) [b] [] cpos) (tBM X.K "str" (fun x xs H Q => ∃ a p, ∃ ys : List Str, x = .str a ∧ xs = [.ref p] ∧ (SqL X.K H p (ys.map V.str) ∨ SqT X.K H p (ys.map V.str)) ∧
      (ys.map (·.length)).sum + ys.length * a.length ≤ 16777216 ∧ Q (.str (Txt.join a ys)) H) (up F) (tCons (up G) tNil))) : XE X (.Call (.Attribute a "join" apos) [b] [] cpos) (dStrM fJoin F G) :=
  xe_strM (id := "str.join") (fun J H z y w P Q s cy h k => by
    unfold fJoin at h
    split at h
    · rename_i ds e
      split at h
      · rename_i ys en
        obtain ⟨p, vs, rfl, hp, rs⟩ := cy.lst s e
        rw [strsD_ok en] at rs
        exact ⟨z, p, ys, rfl, rfl, .inl (by rw [← rs.strs]; exact SqL.of hp), h.1, k _ h.2 _ J H (.refl s) ri_str⟩
      · exact h.elim
    · exact h.elim) h
def fCount (z : Str) (y : R) (P : R → Prop) : Prop := match y.d with
  | .str u => P (.im (.int (Txt.count z u)))
  | _ => False
theorem xe_count (h : PE X (.Call (.Attribute a "count" apos) [b] [] cpos) (tBM X.K "str" (fun x xs H Q => ∃ a b, x = .str a ∧ xs = [.str b] ∧ Q (.int (Txt.count a b)) H) (up F) (tCons (up G) tNil))) : XE X (.Call (.Attribute a "count" apos) [b] [] cpos) (dStrM fCount F G) :=
  xe_strM (id := "str.count") (fun J H z y w P Q s cy h k => by
    unfold fCount at h
    split at h
    · rename_i u e
      have ew := cy.str e
      subst ew
      exact ⟨z, u, rfl, rfl, k _ h _ J H (.refl s) ri_int⟩
    · exact h.elim) h
/-! ### dicts with keys ints and texts -/
def dGet2 (F G K : DE) (ρ : Env) (P : R → Prop) : Prop := F ρ fun x => match x with
  | .im (.dK ks ds) => G ρ fun y => (match keyD y.d with
    | some k => K ρ fun z => (match z with
      | .im dz => P (.im ((getDs ks ds k).getD dz))
      | _ => False)
    | none => False)
  | _ => False
theorem keyCur {J H : Hp} {y : R} {v : V} {k : Key} (c : Cur J H y v) (h : keyD y.d = some k) : v = kV k := by
  cases e : y.d <;> rw [e] at h <;> first | (cases h; done) | skip
  · cases h; exact c.int e
  · cases h; exact c.str e
theorem xe_get2 {K : DE} {e3 : Expr} (h : PE X (.Call (.Attribute a "get" apos) [b, e3] [] cpos) (tDGet2 (up F) (up G) (up K))) : XE X (.Call (.Attribute a "get" apos) [b, e3] [] cpos) (dGet2 F G K) := pe_weak h fun σ H Q h => by
  obtain ⟨J, ρ, P, k, h1, h2⟩ := h
  refine ⟨J, ρ, _, k, h1, fun x hx v J1 H1 e1 r1 => ?_⟩
  split at hx
  · rename_i ks ds
    have r1 : Rep J1 (.dK ks ds) v := r1
    simp only [Rep] at r1
    obtain ⟨p, kvs, rfl, hp, rfl, rs⟩ := r1
    refine ⟨p, rfl, .inl ⟨kvs, .inl (e1.s _ _ hp)⟩, J1, ρ, _, k.ext e1, hx, fun y hy w J2 H2 e2 r2 => ?_⟩
    split at hy
    · rename_i key ek
      have ew := keyCur r2.cur ek
      subst ew
      refine ⟨J2, ρ, _, (k.ext e1).ext e2, hy, fun z hz u J3 H3 e3 r3 => ?_⟩
      split at hz
      · rename_i dz
        have r3 : Rep J3 dz u := r3
        have hp3 := e3.s _ _ (e3.j _ _ (e2.j _ _ hp))
        refine ⟨valV kvs key, .inl ⟨kvs, key, .inl hp3, rfl, rfl⟩, ?_⟩
        have q := get_of (k := key) rs
        refine h2 _ hz _ J3 H3 ((e1.trans e2).trans e3) ?_
        show Rep J3 _ _
        split at q
        · rename_i d ed
          obtain ⟨v, ev, rv⟩ := q
          rw [ed, ev]
          exact rv.mono (e2.j.trans e3.j)
        · rename_i ed
          rw [ed, q]
          exact r3
      · exact hz.elim
    · exact hy.elim
  · exact hx.elim
/-- d[k] -/
def oDGet (x y : R) (P : R → Prop) : Prop := match x, keyD y.d with
  | .im (.dK ks ds), some k => (match getDs ks ds k with
    | some d => P (.im d)
    | none => False)
  | _, _ => False
theorem xe_dget (h : PE X (.Subscript a b pos) (tDGet (up F) (up G))) : XE X (.Subscript a b pos) (dOp oDGet F G) := pe_weak h fun σ H Q h => by
  obtain ⟨J, ρ, P, k, h1, h2⟩ := h
  refine ⟨J, ρ, _, k, h1, fun x hx v J1 H1 e1 r1 => ⟨J1, ρ, _, k.ext e1, hx, fun y hy w J2 H2 e2 r2 => ?_⟩⟩
  unfold oDGet at hy
  split at hy
  · rename_i ks ds key ek
    have r1 : Rep J1 (.dK ks ds) v := r1
    simp only [Rep] at r1
    obtain ⟨p, kvs, rfl, hp, rfl, rs⟩ := r1
    have ew := keyCur r2.cur ek
    subst ew
    have q := get_of (k := key) rs
    split at hy
    · rename_i d ed
      rw [ed] at q
      obtain ⟨u, eu, ru⟩ := q
      exact ⟨p, u, rfl, .inl ⟨kvs, key, .inl (e2.s _ _ (e2.j _ _ hp)), rfl, eu.symm⟩, h2 _ hy _ J2 H2 (e1.trans e2) (show Rep J2 d u from ru.mono e2.j)⟩
    · exact hy.elim
  · exact hy.elim
/-- k in d, k not in d -/
def oDIn (neg : Bool) (y x : R) (P : R → Prop) : Prop := match x.d, keyD y.d with
  | .dK ks ds, some k => P (.im (.bl (if neg then !(getDs ks ds k).isSome else (getDs ks ds k).isSome)))
  | _, _ => False
theorem din_val {J H : Hp} {x : R} {v : V} {ks : List Key} {ds : List D} (s : Same J H) (c : Cur J H x v) (e : x.d = .dK ks ds) (k : Key) : ∃ p o, v = .ref p ∧ DGet H p (kV k) o ∧ o.isSome = (getDs ks ds k).isSome := by
  obtain ⟨p, kvs, rfl, hp, rfl, rs⟩ := c.dK s e
  refine ⟨p, valV kvs k, rfl, .inl ⟨kvs, k, .inl hp, rfl, rfl⟩, ?_⟩
  have q := get_of (k := k) rs
  split at q
  · rename_i d ed
    obtain ⟨u, eu, _⟩ := q
    rw [eu, ed]
    rfl
  · rename_i ed
    rw [q, ed]
    rfl
theorem up_din {σ : L2.St} {H : Hp} {Q : VK} (h : up (dOp (oDIn false) F G) σ H Q) : tDIn (up F) (up G) σ H Q := by
  obtain ⟨J, ρ, P, k, h1, h2⟩ := h
  refine ⟨J, ρ, _, k, h1, fun x hx v J1 H1 e1 r1 => ⟨J1, ρ, _, k.ext e1, hx, fun y hy w J2 H2 e2 r2 => ?_⟩⟩
  unfold oDIn at hy
  split at hy
  · rename_i ks ds key ed ek
    have ew := keyCur r1.cur ek
    subst ew
    obtain ⟨p, o, rfl, g, eo⟩ := din_val e2.s r2.cur ed key
    refine ⟨p, o, rfl, g, ?_⟩
    rw [eo]
    exact h2 _ hy _ J2 H2 (e1.trans e2) ri_bl
  · exact hy.elim
theorem up_dnotin {σ : L2.St} {H : Hp} {Q : VK} (h : up (dOp (oDIn true) F G) σ H Q) : tDNotIn (up F) (up G) σ H Q := by
  obtain ⟨J, ρ, P, k, h1, h2⟩ := h
  refine ⟨J, ρ, _, k, h1, fun x hx v J1 H1 e1 r1 => ⟨J1, ρ, _, k.ext e1, hx, fun y hy w J2 H2 e2 r2 => ?_⟩⟩
  unfold oDIn at hy
  split at hy
  · rename_i ks ds key ed ek
    have ew := keyCur r1.cur ek
    subst ew
    obtain ⟨p, o, rfl, g, eo⟩ := din_val e2.s r2.cur ed key
    refine ⟨p, o, rfl, g, ?_⟩
    rw [eo]
    exact h2 _ hy _ J2 H2 (e1.trans e2) ri_bl
  · exact hy.elim
theorem xt_din (h : PT X (.Compare a [.In] [b] pos) (tTest (tDIn (up F) (up G)))) : XT X (.Compare a [.In] [b] pos) (dTest (dOp (oDIn false) F G)) :=
  pt_weak h fun σ H Q h => up_din (Q := fun x H' => ∃ k, x = .bl k ∧ Q k H') (by
    obtain ⟨J, ρ, P, k, h1, h2⟩ := h
    refine ⟨J, ρ, _, k, h1, fun r hr v J1 H1 e1 r1 => ?_⟩
    split at hr
    · rename_i b e
      exact ⟨b, r1.cur.bl e, h2 b hr J1 H1 e1⟩
    · exact hr.elim)
theorem xt_dnotin (h : PT X (.Compare a [.NotIn] [b] pos) (tTest (tDNotIn (up F) (up G)))) : XT X (.Compare a [.NotIn] [b] pos) (dTest (dOp (oDIn true) F G)) :=
  pt_weak h fun σ H Q h => up_dnotin (Q := fun x H' => ∃ k, x = .bl k ∧ Q k H') (by
    obtain ⟨J, ρ, P, k, h1, h2⟩ := h
    refine ⟨J, ρ, _, k, h1, fun r hr v J1 H1 e1 r1 => ?_⟩
    split at hr
    · rename_i b e
      exact ⟨b, r1.cur.bl e, h2 b hr J1 H1 e1⟩
    · exact hr.elim)
end
end Dl
set_option Elab.async false
set_option linter.all false
set_option maxRecDepth 100000
set_option maxHeartbeats 4000000
/-! The data layer: zip of texts, of three lists, enumerate of a text. -/
namespace Dl
open PySem PySem.Spec PyProof.Rows L2

/-! ### zip of two texts -/
def ItzS (x y : Str) : It :=
  ⟨fun i _ => i < x.cps.size ∧ i < y.cps.size,
    fun i H v H' => ∃ T c d, v = .ref T ∧ H T = none ∧ H' = upd H T (.tup [.str ⟨#[c]⟩, .str ⟨#[d]⟩]) ∧ x.cps[i]? = some c ∧ y.cps[i]? = some d,
    fun i _ => i = min x.cps.size y.cps.size⟩
theorem sepS (N : Nat) : ZipSep2 (N + 4) (N + 2) (N + 3) N (N + 1) [N] [N + 1] := zip_sep2 (fp1 := []) (fp2 := []) (fun _ h => nomatch h) (fun _ h => nomatch h)
theorem str_at {h : Heap} {it : Addr} {x : Str} {t : Tok} {i : Nat} {n : String} (st : h.IsStrIter it n x t i) : ∃ o, h.get? it = some o ∧ ∀ v, o.data ≠ .cell v := by
  obtain ⟨o, e, _, d⟩ := st
  exact ⟨o, e, fun v q => by rw [d] at q; cases q⟩
theorem turn_zipS {P : Program} {w : World} {K : PySem.W.Frag} {elts : List Expr} {kk : Nat} {tpos : Pos} {z TI TO i1 i2 : Addr} (D : ZipSep2 z TI TO i1 i2 [i1] [i2]) (x y : Str) (t u : Tok) :
    Turn P w K (.Tuple elts kk tpos) (ItzS x y) [z, TI, TO, i1, i2] z (fun i h => IsZip h z TI TO .none ∧ IsTupOf2 h TI (.ref i1) (.ref i2) ∧ (∃ a b, IsTupOf2 h TO a b) ∧ h.IsStrIter i1 (strIterType x) x t i ∧ h.IsStrIter i2 (strIterType y) y u i) where
  mem := by simp
  obj := fun i h st c hc => by
    obtain ⟨hz, hTI, ⟨a, b, hTO⟩, h1, h2⟩ := st
    have e' : c = z ∨ c = TI ∨ c = TO ∨ c = i1 ∨ c = i2 := by simpa using hc
    rcases e' with q | q | q | q | q
    · rw [q]; exact ⟨_, hz, fun v q => nomatch q⟩
    · rw [q]; exact ⟨_, hTI, fun v q => nomatch q⟩
    · rw [q]; exact ⟨_, hTO, fun v q => nomatch q⟩
    · rw [q]; exact str_at h1
    · rw [q]; exact str_at h2
  keep := fun i h h' st k => by
    obtain ⟨hz, hTI, ⟨a, b, hTO⟩, ⟨o1, e1, r1⟩, ⟨o2, e2, r2⟩⟩ := st
    exact ⟨k z (by simp) _ hz, k TI (by simp) _ hTI, ⟨a, b, k TO (by simp) _ hTO⟩, ⟨o1, k i1 (by simp) _ e1, r1⟩, ⟨o2, k i2 (by simp) _ e2, r2⟩⟩
  item := by
    intro X hP hw hK hc i pins s σ H E I hf st hg
    subst hP hw hK
    obtain ⟨hz, hTI, ⟨x0, y0, hTO⟩, h1, h2⟩ := st
    have hzl : z < s.heap.objs.size := Heap.lt_size hz
    have D1 := Draws.text (prog := X.prog) (w := X.w) (A := X.A.in1) (I.ok.hd hc) i1 x t
    have D2 := Draws.text (prog := X.prog) (w := X.w) (A := X.A.in1) (I.ok.hd hc) i2 y u
    refine wpAny_pyNext_zipD2_item D D1 D2 hz hTI hTO h1 h2 hg.1 hg.2 fun x1 x2 h' tk p1 p2 z' TO' h1' h2' hT hsz hk => ?_
    obtain ⟨c, t1, hc1, rfl⟩ := p1
    obtain ⟨d, t2, hc2, rfl⟩ := p2
    refine ⟨_, rfl, wpAny_letOwnedTupleGo_zip (s := { s with heap := h', toks := tk }) z' fun h'' z'' sb => ?_⟩
    have hT2 : h''.get? s.heap.objs.size = some { cls := .type "tuple", data := .seq #[.str ⟨#[c]⟩ t1, .str ⟨#[d]⟩ t2] } := (sb.2 _ (Nat.ne_of_gt hzl)).trans hT
    have new : ObjOk X.prog X.w (upd H s.heap.objs.size (.tup [.str ⟨#[c]⟩, .str ⟨#[d]⟩])) h'' s.heap.objs.size (.tup [.str ⟨#[c]⟩, .str ⟨#[d]⟩]) :=
      ⟨by show 2 ≤ sizeLine; decide, [.str ⟨#[c]⟩ t1, .str ⟨#[d]⟩ t2], .cons ⟨_, rfl⟩ (.cons ⟨_, rfl⟩ .nil), ⟨_, hT2, rfl, _, rfl⟩⟩
    have I1 : Inv X pins σ (upd H s.heap.objs.size (.tup [.str ⟨#[c]⟩, .str ⟨#[d]⟩])) { s with heap := h'', toks := tk } :=
      I.turnedNew (t' := tk) (ch := [z, TI, TO, i1, i2]) (fun c o hb q => (sb.2 c (fun q' => hb (by simp [q']))).trans (hk c o (fun q' => hb (by simp [q'])) (fun q' => hb (by simp [q'])) (fun q' => hb (by simp [q'])) (fun q' => hb (by simp [q'])) q)) hf (Nat.le_refl _) new
    have ne1 : i1 ≠ z := fun e => D.zi1 e.symm
    have ne2 : i2 ≠ z := fun e => D.zi2 e.symm
    refine ⟨.ref s.heap.objs.size, _, I1, rfl, ⟨_, c, d, rfl, I.hok.fresh (Nat.le_refl _), rfl, hc1, hc2⟩, ⟨z'', ?_, ⟨.str ⟨#[c]⟩ t1, .str ⟨#[d]⟩ t2, ?_⟩, ?_, ?_⟩, fun c hcm => ?_⟩
    · exact (sb.2 _ D.TIz).trans (hk _ _ D.TIz D.TITO D.TIi1 D.TIi2 hTI)
    · exact (sb.2 _ D.TOz).trans TO'
    · obtain ⟨o1, e1, r1⟩ := h1'
      exact ⟨o1, (sb.2 _ ne1).trans e1, r1⟩
    · obtain ⟨o2, e2, r2⟩ := h2'
      exact ⟨o2, (sb.2 _ ne2).trans e2, r2⟩
    · have hlt : c < s.heap.objs.size := by
        have e' : c = z ∨ c = TI ∨ c = TO ∨ c = i1 ∨ c = i2 := by simpa using hcm
        rcases e' with q | q | q | q | q
        · rw [q]; exact hzl
        · rw [q]; exact Heap.lt_size hTI
        · rw [q]; exact Heap.lt_size hTO
        · rw [q]; obtain ⟨_, e1, _⟩ := h1; exact Heap.lt_size e1
        · rw [q]; obtain ⟨_, e2, _⟩ := h2; exact Heap.lt_size e2
      rw [upd_ne (Nat.ne_of_lt hlt)]
      exact (hf c hcm).1
  done := by
    intro X hP hw hK hc i pins s σ H E I hf st hg
    subst hP hw hK
    obtain ⟨hz, hTI, ⟨x0, y0, hTO⟩, h1, h2⟩ := st
    have hg : i = min x.cps.size y.cps.size := hg
    have D1 := Draws.text (prog := X.prog) (w := X.w) (A := X.A.in1) (I.ok.hd hc) i1 x t
    have D2 := Draws.text (prog := X.prog) (w := X.w) (A := X.A.in1) (I.ok.hd hc) i2 y u
    exact wpAny_pyNext_zipD2_end D D1 D2 hz hTI hTO h1 h2 (by omega) (by omega) (by omega) fun h' tk hk => ⟨rfl, I.turnedL (t' := tk) (ch := [z, TI, TO, i1, i2]) (fun c o hb q =>
      hk c o (fun q' => hb (by simp [q'])) (fun q' => hb (by simp [q'])) (fun q' => hb (by simp [q'])) (fun q' => hb (by simp [q'])) q) hf⟩
  self := fun A i s Q E st h => wpAny_pyIter_zip st.1 h
def iZipS (ta : TA) : TI := fun σ H R => ta σ H fun vs H1 => ∃ x y, vs = [.str x, .str y] ∧ R (ItzS x y) H1
theorem pi_zipS {X : Cx} {e e2 : Expr} {ta : TA} {p pos tpos : Pos} {elts : List Expr} {kk : Nat} (hg : Gl X "zip") (hm : X.mg "zip" = none) (ha : PA X [e, e2] ta)
    (hs : starEach [e, e2] X.env = (false, eval e X.env) :: starEach [e2] X.env := by rfl) (hpl : (backTo pos (starEach [e2] X.env)).any (·.1) = false := by rfl) :
    PI X (.Tuple elts kk tpos) (.Call (.Name "zip" p) [e, e2] [] pos) (iZipS ta) := by
  refine ⟨fun pins s σ H R I h => ?_⟩
  refine Call_ (ld_blt I hg hm PyProof.Rows.boot_zip (PyProof.Rows.callWith_type1 (thn (ha.run pos pins s σ H _ I h) fun us s1 ⟨vs, H1, I1, r1, q1⟩ => ?_) hs hpl))
  obtain ⟨x, y, ex, q⟩ := q1
  subst ex
  obtain ⟨u1, u2, rfl, ⟨t1, rfl⟩, ⟨t2, rfl⟩⟩ := vals2 r1
  refine zip_begins2 (begins_text x t1) (begins_text y t2) trivial trivial fun h' hz hTI hTO h1 h2 hsz hk => wpAny_pyIter_zip hz ?_
  have I2 : Inv X pins σ H1 { s1 with heap := h' } := I1.kept (t' := s1.toks) hk
  refine ⟨s1.heap.objs.size + 4, [s1.heap.objs.size + 4, s1.heap.objs.size + 2, s1.heap.objs.size + 3, s1.heap.objs.size, s1.heap.objs.size + 1], _, _, H1, rfl, I2, turn_zipS (sepS s1.heap.objs.size) x y t1 t2, ⟨hz, hTI, ⟨_, _, hTO⟩, ⟨_, h1, rfl, rfl⟩, ⟨_, h2, rfl, rfl⟩⟩, fun c hcm => ?_, q⟩
  have e' : c = s1.heap.objs.size + 4 ∨ c = s1.heap.objs.size + 2 ∨ c = s1.heap.objs.size + 3 ∨ c = s1.heap.objs.size ∨ c = s1.heap.objs.size + 1 := by simpa using hcm
  have hle : s1.heap.objs.size ≤ c := by
    rcases e' with z | z | z | z | z
    · rw [z]; exact Nat.le_add_right _ _
    · rw [z]; exact Nat.le_add_right _ _
    · rw [z]; exact Nat.le_add_right _ _
    · rw [z]; exact Nat.le_refl _
    · rw [z]; exact Nat.le_add_right _ _
  exact I1.fpOk hle (I1.hok.fresh hle)
/-! ### enumerate of a text -/
def IteS (x : Str) : It :=
  ⟨fun i _ => i < x.cps.size,
    fun i H v H' => ∃ T c, v = .ref T ∧ H T = none ∧ H' = upd H T (.tup [.int (i : Nat), .str ⟨#[c]⟩]) ∧ x.cps[i]? = some c,
    fun i _ => i = x.cps.size⟩
theorem turn_enumS {P : Program} {w : World} {K : PySem.W.Frag} {elts : List Expr} {kk : Nat} {tpos : Pos} {e it : Addr} (hne : e ≠ it) (x : Str) (t : Tok) :
    Turn P w K (.Tuple elts kk tpos) (IteS x) [e, it] e (fun i h => (∃ old, IsEnum h e it (i : Nat) old) ∧ h.IsStrIter it (strIterType x) x t i) where
  mem := by simp
  obj := fun i h st c hc => by
    obtain ⟨⟨old, he⟩, h1⟩ := st
    have e' : c = e ∨ c = it := by simpa using hc
    rcases e' with q | q
    · rw [q]; exact ⟨_, he, fun v q => nomatch q⟩
    · rw [q]; exact str_at h1
  keep := fun i h h' st k => by
    obtain ⟨⟨old, he⟩, ⟨o1, e1, r1⟩⟩ := st
    exact ⟨⟨old, k e (by simp) _ he⟩, ⟨o1, k it (by simp) _ e1, r1⟩⟩
  item := by
    intro X hP hw hK hc i pins s σ H E I hf st hg
    subst hP hw hK
    obtain ⟨⟨old, he⟩, h1⟩ := st
    have hel : e < s.heap.objs.size := Heap.lt_size he
    have hil : it < s.heap.objs.size := by obtain ⟨_, q, _⟩ := h1; exact Heap.lt_size q
    have D1 := Draws.text (prog := X.prog) (w := X.w) (A := X.A.in1) (I.ok.hd hc) it x t
    refine wpAny_pyNext_enum_itemC D1 he h1 hg hne (by simpa using hne) fun v h' tk pv ho h1' hT hsz hk => ?_
    obtain ⟨c, t1, hc1, rfl⟩ := pv
    refine ⟨_, rfl, wpAny_letOwnedTupleGo_enum (s := { s with heap := h', toks := tk + 1 }) ho fun h'' he' sb => ?_⟩
    have hT2 : h''.get? s.heap.objs.size = some { cls := .type "tuple", data := .seq #[.int (i : Nat) tk, .str ⟨#[c]⟩ t1] } := (sb.2 _ (Nat.ne_of_gt hel)).trans hT
    have new : ObjOk X.prog X.w (upd H s.heap.objs.size (.tup [.int (i : Nat), .str ⟨#[c]⟩])) h'' s.heap.objs.size (.tup [.int (i : Nat), .str ⟨#[c]⟩]) :=
      ⟨by show 2 ≤ sizeLine; decide, [.int (i : Nat) tk, .str ⟨#[c]⟩ t1], .cons ⟨_, rfl⟩ (.cons ⟨_, rfl⟩ .nil), ⟨_, hT2, rfl, _, rfl⟩⟩
    have I1 : Inv X pins σ (upd H s.heap.objs.size (.tup [.int (i : Nat), .str ⟨#[c]⟩])) { s with heap := h'', toks := tk + 1 } :=
      I.turnedNew (ch := [e, it]) (fun b ob hb q => (sb.2 b (fun z => hb (by simp [z]))).trans (hk b ob (fun z => hb (by simp [z])) (fun z => hb (by simp [z])) q)) hf (Nat.le_refl _) new
    refine ⟨.ref s.heap.objs.size, _, I1, rfl, ⟨_, c, rfl, I.hok.fresh (Nat.le_refl _), rfl, hc1⟩, ⟨⟨.str ⟨#[c]⟩ t1, ?_⟩, ?_⟩, fun b hb => ?_⟩
    · have e1 : ((i + 1 : Nat) : Int) = (i : Int) + 1 := by omega
      rw [e1]; exact he'
    · obtain ⟨o1, e1, r1⟩ := h1'
      exact ⟨o1, (sb.2 _ (Ne.symm hne)).trans e1, r1⟩
    · have hb' : b < s.heap.objs.size := by
        have e' : b = e ∨ b = it := by simpa using hb
        rcases e' with z | z
        · rw [z]; exact hel
        · rw [z]; exact hil
      rw [upd_ne (Nat.ne_of_lt hb')]
      exact (hf b hb).1
  done := by
    intro X hP hw hK hc i pins s σ H E I hf st hg
    subst hP hw hK
    obtain ⟨⟨old, he⟩, h1⟩ := st
    have hg : i = x.cps.size := hg
    obtain ⟨f0, f1, f2, f3, f4, f5⟩ := hf it (by simp)
    subst hg
    have D1 := Draws.text (prog := X.prog) (w := X.w) (A := X.A.in1) (I.ok.hd hc) it x t
    exact wpAny_pyNext_enum_endD D1 he h1 fun h' eb => ⟨rfl, I.turned (t' := s.toks) (fun b o hb q => eb b o hb q) f0 f1 f3 f4 f5⟩
  self := fun A i s Q E st h => let ⟨⟨_, he⟩, _⟩ := st; wpAny_pyIter_enum he h
def iEnumS (ta : TA) : TI := fun σ H R => ta σ H fun vs H1 => ∃ x, vs = [.str x] ∧ R (IteS x) H1
theorem pi_enumS {X : Cx} {e : Expr} {ta : TA} {p pos tpos : Pos} {elts : List Expr} {kk : Nat} (hg : Gl X "enumerate") (hm : X.mg "enumerate" = none) (ha : PA X [e] ta) (hs : starEach [e] X.env = [(false, eval e X.env)] := by rfl) :
    PI X (.Tuple elts kk tpos) (.Call (.Name "enumerate" p) [e] [] pos) (iEnumS ta) := by
  refine ⟨fun pins s σ H R I h => ?_⟩
  refine Call_ (ld_blt I hg hm boot_enumerate (PyProof.Rows.callWith_type1 (thn (ha.run pos pins s σ H _ I h) fun us s1 ⟨vs, H1, I1, r1, q1⟩ => ?_) hs rfl))
  obtain ⟨x, ex, q⟩ := q1
  subst ex
  obtain ⟨u1, rfl, ⟨t1, rfl⟩⟩ := vals1 r1
  refine call_enumerate_str fun h' he hit hsz hk => wpAny_pyIter_enum he ?_
  have I2 : Inv X pins σ H1 { s1 with heap := h' } := I1.kept (t' := s1.toks) hk
  refine ⟨s1.heap.objs.size + 1, [s1.heap.objs.size + 1, s1.heap.objs.size], _, _, H1, rfl, I2, turn_enumS (Nat.succ_ne_self _) x t1, ⟨⟨.none, he⟩, hit⟩, fun b hb => ?_, q⟩
  have e' : b = s1.heap.objs.size + 1 ∨ b = s1.heap.objs.size := by simpa using hb
  have hle : s1.heap.objs.size ≤ b := by
    rcases e' with z | z
    · rw [z]; exact Nat.le_add_right _ _
    · rw [z]; exact Nat.le_refl _
  exact I1.fpOk hle (I1.hok.fresh hle)
/-! ### zip of three lists -/
def Itz3 (K : PySem.W.Frag) (a b c : Addr) : It :=
  ⟨fun i H => ∃ (xs ys zs : List V) (x y z : V), SqL K H a xs ∧ SqL K H b ys ∧ SqL K H c zs ∧ xs[i]? = some x ∧ ys[i]? = some y ∧ zs[i]? = some z,
    fun i H v H' => ∃ T x y z, v = .ref T ∧ H T = none ∧ H' = upd H T (.tup [x, y, z]) ∧ (∀ xs, SqL K H a xs → xs[i]? = some x) ∧ (∀ ys, SqL K H b ys → ys[i]? = some y) ∧ ∀ zs, SqL K H c zs → zs[i]? = some z,
    fun i H => ∃ xs ys zs : List V, SqL K H a xs ∧ SqL K H b ys ∧ SqL K H c zs ∧ i ≤ xs.length ∧ i ≤ ys.length ∧ i ≤ zs.length ∧ (xs.length = i ∨ ys.length = i ∨ zs.length = i)⟩
theorem turn_zip3 {P : Program} {w : World} {K : PySem.W.Frag} {elts : List Expr} {kk : Nat} {tpos : Pos} {a b c z TI TO i1 i2 i3 : Addr} (D : ZipSep3 z TI TO i1 i2 i3 [i1, a] [i2, b] [i3, c]) (na : a ≠ i1) (nb : b ≠ i2) (nc : c ≠ i3) :
    Turn P w K (.Tuple elts kk tpos) (Itz3 K a b c) [z, TI, TO, i1, i2, i3] z (fun i h => IsZip h z TI TO .none ∧ IsTupOf3 h TI (.ref i1) (.ref i2) (.ref i3) ∧ (∃ x y u, IsTupOf3 h TO x y u) ∧ h.IsListIter i1 a i ∧ h.IsListIter i2 b i ∧ h.IsListIter i3 c i) where
  mem := by simp
  obj := fun i h st d hd => by
    obtain ⟨hz, hTI, ⟨x, y, u, hTO⟩, ⟨o1, e1, _, d1⟩, ⟨o2, e2, _, d2⟩, ⟨o3, e3, _, d3⟩⟩ := st
    have e' : d = z ∨ d = TI ∨ d = TO ∨ d = i1 ∨ d = i2 ∨ d = i3 := by simpa using hd
    rcases e' with q | q | q | q | q | q
    · rw [q]; exact ⟨_, hz, fun v q => nomatch q⟩
    · rw [q]; exact ⟨_, hTI, fun v q => nomatch q⟩
    · rw [q]; exact ⟨_, hTO, fun v q => nomatch q⟩
    · rw [q]; exact ⟨o1, e1, fun v q => by rw [d1] at q; cases q⟩
    · rw [q]; exact ⟨o2, e2, fun v q => by rw [d2] at q; cases q⟩
    · rw [q]; exact ⟨o3, e3, fun v q => by rw [d3] at q; cases q⟩
  keep := fun i h h' st k => by
    obtain ⟨hz, hTI, ⟨x, y, u, hTO⟩, h1, h2, h3⟩ := st
    exact ⟨k z (by simp) _ hz, k TI (by simp) _ hTI, ⟨x, y, u, k TO (by simp) _ hTO⟩, h1.at fun o q => k i1 (by simp) o q, h2.at fun o q => k i2 (by simp) o q, h3.at fun o q => k i3 (by simp) o q⟩
  item := by
    intro X hP hw hK hc i pins s σ H E I hf st hg
    subst hP hw hK
    obtain ⟨hz, hTI, ⟨x0, y0, u0, hTO⟩, h1, h2, h3⟩ := st
    obtain ⟨xs, ys, zs, x, y, u, hqx, hqy, hqz, hx, hy, hu⟩ := hg
    obtain ⟨its, rv, p, _⟩ := I.list hqx
    obtain ⟨its2, rv2, p2, _⟩ := I.list hqy
    obtain ⟨its3, rv3, p3, _⟩ := I.list hqz
    obtain ⟨v1, hv1, r1⟩ := rv.get hx
    obtain ⟨v2, hv2, r2⟩ := rv2.get hy
    obtain ⟨v3, hv3, r3⟩ := rv3.get hu
    have hzl : z < s.heap.objs.size := Heap.lt_size hz
    have D1 := Draws.list (prog := X.prog) (w := X.w) (A := X.A.in1) (I.ok.hd hc) i1 a na its.toArray
    have D2 := Draws.list (prog := X.prog) (w := X.w) (A := X.A.in1) (I.ok.hd hc) i2 b nb its2.toArray
    have D3 := Draws.list (prog := X.prog) (w := X.w) (A := X.A.in1) (I.ok.hd hc) i3 c nc its3.toArray
    have g1 : its.toArray[i]? = some v1 := by simpa using hv1
    have g2 : its2.toArray[i]? = some v2 := by simpa using hv2
    have g3 : its3.toArray[i]? = some v3 := by simpa using hv3
    have l1 : i < its.toArray.size := by
      rcases Nat.lt_or_ge i its.toArray.size with q | q
      · exact q
      · rw [Array.getElem?_eq_none q] at g1; cases g1
    have l2 : i < its2.toArray.size := by
      rcases Nat.lt_or_ge i its2.toArray.size with q | q
      · exact q
      · rw [Array.getElem?_eq_none q] at g2; cases g2
    have l3 : i < its3.toArray.size := by
      rcases Nat.lt_or_ge i its3.toArray.size with q | q
      · exact q
      · rw [Array.getElem?_eq_none q] at g3; cases g3
    refine wpAny_pyNext_zipD3_item D D1 D2 D3 hz hTI hTO ⟨h1, p.isList⟩ ⟨h2, p2.isList⟩ ⟨h3, p3.isList⟩ l1 l2 l3 fun x1 x2 x3 h' tk q1 q2 q3 z' TO' h1' h2' h3' hT hsz hk => ?_
    have q1 : its.toArray[i]? = some x1 := q1
    have q2 : its2.toArray[i]? = some x2 := q2
    have q3 : its3.toArray[i]? = some x3 := q3
    rw [g1] at q1
    rw [g2] at q2
    rw [g3] at q3
    cases q1
    cases q2
    cases q3
    refine ⟨_, rfl, wpAny_letOwnedTupleGo_zip (s := { s with heap := h', toks := tk }) z' fun h'' z'' sb => ?_⟩
    have hT2 : h''.get? s.heap.objs.size = some { cls := .type "tuple", data := .seq #[v1, v2, v3] } := (sb.2 _ (Nat.ne_of_gt hzl)).trans hT
    have new : ObjOk X.prog X.w (upd H s.heap.objs.size (.tup [x, y, u])) h'' s.heap.objs.size (.tup [x, y, u]) :=
      ⟨by show 3 ≤ sizeLine; decide, [v1, v2, v3], .cons r1 (.cons r2 (.cons r3 .nil)), ⟨_, hT2, rfl, _, rfl⟩⟩
    have I1 : Inv X pins σ (upd H s.heap.objs.size (.tup [x, y, u])) { s with heap := h'', toks := tk } :=
      I.turnedNew (t' := tk) (ch := [z, TI, TO, i1, i2, i3]) (fun c o hb q => (sb.2 c (fun q' => hb (by simp [q']))).trans (hk c o (fun q' => hb (by simp [q'])) (fun q' => hb (by simp [q'])) (fun q' => hb (by simp [q'])) (fun q' => hb (by simp [q'])) (fun q' => hb (by simp [q'])) q)) hf (Nat.le_refl _) new
    have ne1 : i1 ≠ z := fun e => D.zi1 e.symm
    have ne2 : i2 ≠ z := fun e => D.zi2 e.symm
    have ne3 : i3 ≠ z := fun e => D.zi3 e.symm
    refine ⟨.ref s.heap.objs.size, _, I1, rfl, ⟨_, x, y, u, rfl, I.hok.fresh (Nat.le_refl _), rfl, fun l hl => by rw [I.list_inj hl hqx]; exact hx, fun l hl => by rw [I.list_inj hl hqy]; exact hy, fun l hl => by rw [I.list_inj hl hqz]; exact hu⟩, ⟨z'', ?_, ⟨v1, v2, v3, ?_⟩, ?_, ?_, ?_⟩, fun d hcm => ?_⟩
    · exact (sb.2 _ D.TIz).trans (hk _ _ D.TIz D.TITO D.TIi1 D.TIi2 D.TIi3 hTI)
    · exact (sb.2 _ D.TOz).trans TO'
    · exact h1'.1.at fun o q => (sb.2 _ ne1).trans q
    · exact h2'.1.at fun o q => (sb.2 _ ne2).trans q
    · exact h3'.1.at fun o q => (sb.2 _ ne3).trans q
    · have hlt : d < s.heap.objs.size := by
        have e' : d = z ∨ d = TI ∨ d = TO ∨ d = i1 ∨ d = i2 ∨ d = i3 := by simpa using hcm
        rcases e' with q | q | q | q | q | q
        · rw [q]; exact hzl
        · rw [q]; exact Heap.lt_size hTI
        · rw [q]; exact Heap.lt_size hTO
        · rw [q]; obtain ⟨_, e1, _⟩ := h1; exact Heap.lt_size e1
        · rw [q]; obtain ⟨_, e2, _⟩ := h2; exact Heap.lt_size e2
        · rw [q]; obtain ⟨_, e3, _⟩ := h3; exact Heap.lt_size e3
      rw [upd_ne (Nat.ne_of_lt hlt)]
      exact (hf d hcm).1
  done := by
    intro X hP hw hK hc i pins s σ H E I hf st hg
    subst hP hw hK
    obtain ⟨hz, hTI, ⟨x0, y0, u0, hTO⟩, h1, h2, h3⟩ := st
    obtain ⟨xs, ys, zs, hqx, hqy, hqz, b1, b2, b3, hend⟩ := hg
    obtain ⟨its, rv, p, _⟩ := I.list hqx
    obtain ⟨its2, rv2, p2, _⟩ := I.list hqy
    obtain ⟨its3, rv3, p3, _⟩ := I.list hqz
    have l1 := rv.length
    have l2 := rv2.length
    have l3 := rv3.length
    have D1 := Draws.list (prog := X.prog) (w := X.w) (A := X.A.in1) (I.ok.hd hc) i1 a na its.toArray
    have D2 := Draws.list (prog := X.prog) (w := X.w) (A := X.A.in1) (I.ok.hd hc) i2 b nb its2.toArray
    have D3 := Draws.list (prog := X.prog) (w := X.w) (A := X.A.in1) (I.ok.hd hc) i3 c nc its3.toArray
    have s1 : its.toArray.size = its.length := by simp
    have s2 : its2.toArray.size = its2.length := by simp
    have s3 : its3.toArray.size = its3.length := by simp
    exact wpAny_pyNext_zipD3_end D D1 D2 D3 hz hTI hTO ⟨h1, p.isList⟩ ⟨h2, p2.isList⟩ ⟨h3, p3.isList⟩ (by omega) (by omega) (by omega) (by omega) fun h' tk hk => ⟨rfl, I.turnedL (t' := tk) (ch := [z, TI, TO, i1, i2, i3]) (fun c o hb q =>
      hk c o (fun q' => hb (by simp [q'])) (fun q' => hb (by simp [q'])) (fun q' => hb (by simp [q'])) (fun q' => hb (by simp [q'])) (fun q' => hb (by simp [q'])) q) hf⟩
  self := fun A i s Q E st h => wpAny_pyIter_zip st.1 h
def iZip3 (K : PySem.W.Frag) (ta : TA) : TI := fun σ H R => ta σ H fun vs H1 => ∃ a b c xs ys zs, vs = [.ref a, .ref b, .ref c] ∧ SqL K H1 a xs ∧ SqL K H1 b ys ∧ SqL K H1 c zs ∧ R (Itz3 K a b c) H1
theorem pi_zip3 {X : Cx} {e e2 e3 : Expr} {ta : TA} {p pos tpos : Pos} {elts : List Expr} {kk : Nat} (hg : Gl X "zip") (hm : X.mg "zip" = none) (ha : PA X [e, e2, e3] ta)
    (hs : starEach [e, e2, e3] X.env = (false, eval e X.env) :: starEach [e2, e3] X.env := by rfl) (hpl : (backTo pos (starEach [e2, e3] X.env)).any (·.1) = false := by rfl) :
    PI X (.Tuple elts kk tpos) (.Call (.Name "zip" p) [e, e2, e3] [] pos) (iZip3 X.K ta) := by
  refine ⟨fun pins s σ H R I h => ?_⟩
  refine Call_ (ld_blt I hg hm PyProof.Rows.boot_zip (PyProof.Rows.callWith_type1 (thn (ha.run pos pins s σ H _ I h) fun us s1 ⟨vs, H1, I1, r1, q1⟩ => ?_) hs hpl))
  obtain ⟨a, b, c, xs, ys, zs, ex, hqx, hqy, hqz, q⟩ := q1
  subst ex
  cases r1 with
  | cons r rr =>
    cases rr with
    | cons r' rr =>
      cases rr with
      | cons r'' rr =>
        cases rr
        cases r
        cases r'
        cases r''
        obtain ⟨its, rv, p1, _⟩ := I1.list hqx
        obtain ⟨its2, rv2, p2, _⟩ := I1.list hqy
        obtain ⟨its3, rv3, p3, _⟩ := I1.list hqz
        have la : a < s1.heap.objs.size := p1.lt
        have lb : b < s1.heap.objs.size := p2.lt
        have lc : c < s1.heap.objs.size := p3.lt
        refine zip_begins3 (begins_list a its.toArray) (begins_list b its2.toArray) (begins_list c its3.toArray) p1.isList p2.isList p3.isList fun h' hz hTI hTO h1 h2 h3 hsz hk => wpAny_pyIter_zip hz ?_
        have I2 : Inv X pins σ H1 { s1 with heap := h' } := I1.kept (t' := s1.toks) hk
        refine ⟨s1.heap.objs.size + 5, [s1.heap.objs.size + 5, s1.heap.objs.size + 3, s1.heap.objs.size + 4, s1.heap.objs.size, s1.heap.objs.size + 1, s1.heap.objs.size + 2], _, _, H1, rfl, I2,
          turn_zip3 (zip_sep3 (fp1 := [a]) (fp2 := [b]) (fp3 := [c]) (by simpa using la) (by simpa using lb) (by simpa using lc)) (Nat.ne_of_lt la) (Nat.ne_of_lt (Nat.lt_succ_of_lt lb)) (Nat.ne_of_lt (Nat.lt_succ_of_lt (Nat.lt_succ_of_lt lc))), ⟨hz, hTI, ⟨_, _, _, hTO⟩, ⟨_, h1, rfl, rfl⟩, ⟨_, h2, rfl, rfl⟩, ⟨_, h3, rfl, rfl⟩⟩, fun d hcm => ?_, q⟩
        have e' : d = s1.heap.objs.size + 5 ∨ d = s1.heap.objs.size + 3 ∨ d = s1.heap.objs.size + 4 ∨ d = s1.heap.objs.size ∨ d = s1.heap.objs.size + 1 ∨ d = s1.heap.objs.size + 2 := by simpa using hcm
        have hle : s1.heap.objs.size ≤ d := by
          rcases e' with z | z | z | z | z | z
          · rw [z]; exact Nat.le_add_right _ _
          · rw [z]; exact Nat.le_add_right _ _
          · rw [z]; exact Nat.le_add_right _ _
          · rw [z]; exact Nat.le_refl _
          · rw [z]; exact Nat.le_add_right _ _
          · rw [z]; exact Nat.le_add_right _ _
        exact I1.fpOk hle (I1.hok.fresh hle)
end Dl
set_option Elab.async false
set_option linter.all false
set_option maxRecDepth 100000
set_option maxHeartbeats 4000000
/-! The data layer: calls of defs, methods, fields, isinstance; the rule for a def. -/
namespace Dl
open PySem PySem.Spec PyProof.Rows L2

/-! ### walks over pairs of signs, triples -/
theorem ext_tup {J H H2 : Hp} {vs : List V} {ds : List D} {T : Addr} (s : Same J H) (hT : H T = none) (h2 : H2 = upd H T (.tup vs)) (r : Reps J ds vs) : ∃ J2, Ext J H J2 H2 ∧ Rep J2 (.tup ds) (.ref T) := by
  subst h2
  exact ⟨upd J T (.tup vs), Ext.lay s hT, lay_tup s hT r⟩
theorem signs_get {z : Str} {i : Nat} {d : D} (h : (signs z)[i]? = some d) : ∃ c, z.cps[i]? = some c ∧ d = .str ⟨#[c]⟩ := by
  unfold signs at h
  rw [List.getElem?_map, Array.getElem?_toList] at h
  obtain ⟨c, hc, rfl⟩ := Option.map_eq_some_iff.mp h
  exact ⟨c, hc, rfl⟩
theorem walkD_zipS {J : Hp} {x y : Str} : WalkD J (pairsD (signs x) (signs y)) (ItzS x y) :=
  ⟨fun _ => True, fun i H v H' => ∃ T c d, v = .ref T ∧ H T = none ∧ H' = upd H T (.tup [.str ⟨#[c]⟩, .str ⟨#[d]⟩]) ∧ x.cps[i]? = some c ∧ y.cps[i]? = some d,
    ⟨fun i H hi _ => by
        rw [pairsD_len, signs_len, signs_len] at hi
        exact ⟨by omega, by omega⟩, fun H _ => by
        show _ = min x.cps.size y.cps.size
        rw [pairsD_len, signs_len, signs_len], fun i H v H' _ _ h => h⟩, fun _ _ => True.intro, fun i J' H' v H2 d hd s s' h => by
    obtain ⟨T, c, e, rfl, hT, h2, e1, e2⟩ := h
    obtain ⟨a, b, g1, g2, rfl⟩ := pairsD_get hd
    obtain ⟨c', f1, rfl⟩ := signs_get g1
    obtain ⟨e', f2, rfl⟩ := signs_get g2
    rw [e1] at f1
    rw [e2] at f2
    cases f1
    cases f2
    exact ext_tup s' hT h2 (.cons rp_str (.one rp_str))⟩
theorem walkD_enumS {J : Hp} {x : Str} : WalkD J (enumD (signs x)) (IteS x) :=
  ⟨fun _ => True, fun i H v H' => ∃ T c, v = .ref T ∧ H T = none ∧ H' = upd H T (.tup [.int (i : Nat), .str ⟨#[c]⟩]) ∧ x.cps[i]? = some c,
    ⟨fun i H hi _ => by
        rw [enumD_len, signs_len] at hi
        exact hi, fun H _ => by
        show _ = x.cps.size
        rw [enumD_len, signs_len], fun i H v H' _ _ h => h⟩, fun _ _ => True.intro, fun i J' H' v H2 d hd s s' h => by
    obtain ⟨T, c, rfl, hT, h2, e1⟩ := h
    obtain ⟨a, g1, rfl⟩ := enumD_get hd
    obtain ⟨c', f1, rfl⟩ := signs_get g1
    rw [e1] at f1
    cases f1
    exact ext_tup s' hT h2 (.cons rp_int (.one rp_str))⟩
def trisD (ds es fs : List D) : List D := (ds.zip (es.zip fs)).map fun p => D.tup [p.1, p.2.1, p.2.2]
theorem trisD_len (ds es fs : List D) : (trisD ds es fs).length = min (min ds.length es.length) fs.length := by
  simp [trisD, Nat.min_assoc]
theorem trisD_get {ds es fs : List D} {i : Nat} {d : D} (h : (trisD ds es fs)[i]? = some d) : ∃ a b c, ds[i]? = some a ∧ es[i]? = some b ∧ fs[i]? = some c ∧ d = .tup [a, b, c] := by
  unfold trisD at h
  rw [List.getElem?_map] at h
  obtain ⟨p, hp, rfl⟩ := Option.map_eq_some_iff.mp h
  rw [List.getElem?_zip_eq_some] at hp
  obtain ⟨h1, h2⟩ := hp
  rw [List.getElem?_zip_eq_some] at h2
  exact ⟨_, _, _, h1, h2.1, h2.2, rfl⟩
theorem walkD_zip3 {J : Hp} {K : PySem.W.Frag} {a b c : Addr} {vs ws us : List V} {ds es fs : List D} (hp : J a = some (.lst vs)) (hq : J b = some (.lst ws)) (hr : J c = some (.lst us)) (rs : Reps J ds vs) (rt : Reps J es ws) (ru : Reps J fs us) :
    WalkD J (trisD ds es fs) (Itz3 K a b c) :=
  ⟨fun H => SqL K H a vs ∧ SqL K H b ws ∧ SqL K H c us, fun i H v H' => ∃ T x y z, v = .ref T ∧ H T = none ∧ H' = upd H T (.tup [x, y, z]) ∧ vs[i]? = some x ∧ ws[i]? = some y ∧ us[i]? = some z,
    ⟨fun i H hi g => by
        rw [trisD_len, rs.len, rt.len, ru.len] at hi
        have h1 : i < vs.length := by omega
        have h2 : i < ws.length := by omega
        have h3 : i < us.length := by omega
        exact ⟨vs, ws, us, vs[i], ws[i], us[i], g.1, g.2.1, g.2.2, by simp, by simp, by simp⟩, fun H g => by
        refine ⟨vs, ws, us, g.1, g.2.1, g.2.2, ?_, ?_, ?_, ?_⟩ <;> rw [trisD_len, rs.len, rt.len, ru.len] <;> omega, fun i H v H' _ g h => by
        obtain ⟨T, x, y, z, h1, h2, h3, h4, h5, h6⟩ := h
        exact ⟨T, x, y, z, h1, h2, h3, h4 _ g.1, h5 _ g.2.1, h6 _ g.2.2⟩⟩, fun H' s => ⟨SqL.of (s _ _ hp), SqL.of (s _ _ hq), SqL.of (s _ _ hr)⟩, fun i J' H' v H2 d hd s s' h => by
    obtain ⟨T, x, y, z, rfl, hT, h2, e1, e2, e3⟩ := h
    obtain ⟨a, b, c, g1, g2, g3, rfl⟩ := trisD_get hd
    obtain ⟨x', f1, r1⟩ := rs.get g1
    obtain ⟨y', f2, r2⟩ := rt.get g2
    obtain ⟨z', f3, r3⟩ := ru.get g3
    rw [e1] at f1
    rw [e2] at f2
    rw [e3] at f3
    cases f1
    cases f2
    cases f3
    exact ext_tup s' hT h2 (.cons (r1.mono s) (.cons (r2.mono s) (.one (r3.mono s))))⟩
def dIZS (F G : DE) (ρ : Env) (P : List D → Prop) : Prop := F ρ fun r => G ρ fun s => match r.d, s.d with
  | .str x, .str y => P (pairsD (signs x) (signs y))
  | _, _ => False
def dIES (F : DE) (ρ : Env) (P : List D → Prop) : Prop := F ρ fun r => match r.d with
  | .str x => P (enumD (signs x))
  | _ => False
def dIZ3 (F G K : DE) (ρ : Env) (P : List D → Prop) : Prop := F ρ fun r => match r with
  | .im (.lst ds) => G ρ fun s => (match s with
    | .im (.lst es) => K ρ fun t => (match t with
      | .im (.lst fs) => P (trisD ds es fs)
      | _ => False)
    | _ => False)
  | _ => False
section
variable {X : Cx} {e e2 e3 : Expr} {F G K : DE} {p pos tpos : Pos} {elts : List Expr} {kk : Nat}
theorem xi_zipS (hg : Gl X "zip") (hm : X.mg "zip" = none) (ha : XE X e F) (hb : XE X e2 G) (hs : starEach [e, e2] X.env = (false, eval e X.env) :: starEach [e2] X.env := by rfl) (hs2 : starEach [e2] X.env = (false, eval e2 X.env) :: starEach [] X.env := by rfl) (hpl : (backTo pos (starEach [e2] X.env)).any (·.1) = false := by rfl) :
    XI X (.Tuple elts kk tpos) (.Call (.Name "zip" p) [e, e2] [] pos) (dIZS F G) := pi_weak (pi_zipS hg hm (pa_cons ha (pa_cons hb pa_nil hs2) hs) hs hpl) fun σ H Q h => by
  obtain ⟨J, ρ, P, k, h1, h2⟩ := h
  refine ⟨J, ρ, _, k, h1, fun r hr v J1 H1 e1 r1 => ⟨J1, ρ, _, k.ext e1, hr, fun s hs w J2 H2 e2 r2 => ?_⟩⟩
  split at hs
  · rename_i x y ex ey
    exact ⟨x, y, by rw [r1.cur.str ex, r2.cur.str ey], h2 _ hs _ J2 H2 (e1.trans e2) walkD_zipS⟩
  · exact hs.elim
theorem xi_enumS (hg : Gl X "enumerate") (hm : X.mg "enumerate" = none) (ha : XE X e F) (hs : starEach [e] X.env = [(false, eval e X.env)] := by rfl) : XI X (.Tuple elts kk tpos) (.Call (.Name "enumerate" p) [e] [] pos) (dIES F) := pi_weak (pi_enumS hg hm (pa_cons ha pa_nil hs) hs) fun σ H Q h => by
  obtain ⟨J, ρ, P, k, h1, h2⟩ := h
  refine ⟨J, ρ, _, k, h1, fun r hr v J1 H1 e1 r1 => ?_⟩
  split at hr
  · rename_i x ex
    exact ⟨x, by rw [r1.cur.str ex], h2 _ hr _ J1 H1 e1 walkD_enumS⟩
  · exact hr.elim
theorem xi_zip3 (hg : Gl X "zip") (hm : X.mg "zip" = none) (ha : XE X e F) (hb : XE X e2 G) (hc : XE X e3 K) (hs : starEach [e, e2, e3] X.env = (false, eval e X.env) :: starEach [e2, e3] X.env := by rfl) (hs2 : starEach [e2, e3] X.env = (false, eval e2 X.env) :: starEach [e3] X.env := by rfl) (hs3 : starEach [e3] X.env = (false, eval e3 X.env) :: starEach [] X.env := by rfl)
    (hpl : (backTo pos (starEach [e2, e3] X.env)).any (·.1) = false := by rfl) :
    XI X (.Tuple elts kk tpos) (.Call (.Name "zip" p) [e, e2, e3] [] pos) (dIZ3 F G K) := pi_weak (pi_zip3 hg hm (pa_cons ha (pa_cons hb (pa_cons hc pa_nil hs3) hs2) hs) hs hpl) fun σ H Q h => by
  obtain ⟨J, ρ, P, k, h1, h2⟩ := h
  refine ⟨J, ρ, _, k, h1, fun r hr v J1 H1 e1 r1 => ?_⟩
  split at hr
  · have r1 : Rep J1 (.lst _) v := r1
    simp only [Rep] at r1
    obtain ⟨p, vs, rfl, hp, rs⟩ := r1
    refine ⟨J1, ρ, _, k.ext e1, hr, fun s hs w J2 H2 e2 r2 => ?_⟩
    split at hs
    · have r2 : Rep J2 (.lst _) w := r2
      simp only [Rep] at r2
      obtain ⟨q, ws, rfl, hq, rt⟩ := r2
      refine ⟨J2, ρ, _, (k.ext e1).ext e2, hs, fun t ht u J3 H3 e3 r3 => ?_⟩
      split at ht
      · have r3 : Rep J3 (.lst _) u := r3
        simp only [Rep] at r3
        obtain ⟨n, us, rfl, hn, ru⟩ := r3
        have h1 := e3.j _ _ (e2.j _ _ hp)
        have h2' := e3.j _ _ hq
        exact ⟨p, q, n, vs, ws, us, rfl, SqL.of (e3.s _ _ h1), SqL.of (e3.s _ _ h2'), SqL.of (e3.s _ _ hn), h2 _ ht _ J3 H3 ((e1.trans e2).trans e3) (walkD_zip3 h1 h2' hn (rs.mono (e2.j.trans e3.j)) (rt.mono e3.j) ru)⟩
      · exact ht.elim
    · exact hs.elim
  · exact hr.elim
end
/-! ### chains -/
def dChain (f f' : RD2) (F G K : DE) (ρ : Env) (P : R → Prop) : Prop := F ρ fun x => G ρ fun y => f x y fun z => match z with
  | .im (.bl true) => K ρ fun w => f' y w P
  | .im (.bl false) => P (.im (.bl false))
  | _ => False
theorem up_chain {r r' : R2} {f f' : RD2} (l : Lift2 r f) (l' : Lift2 r' f') {F G K : DE} {σ : L2.St} {H : Hp} {Q : VK} (h : up (dChain f f' F G K) σ H Q) : tChain r r' (up F) (up G) (up K) σ H Q := by
  obtain ⟨J, ρ, P, k, h1, h2⟩ := h
  refine ⟨J, ρ, _, k, h1, fun x hx v J1 H1 e1 r1 => ⟨J1, ρ, _, k.ext e1, hx, fun y hy w J2 H2 e2 r2 => ?_⟩⟩
  refine l J2 H2 x y v w _ _ e2.s (r1.ext e2).cur r2.cur hy fun z hz u J3 H3 e3 r3 => ?_
  split at hz
  · have r3 : Rep J3 (.bl true) u := r3
    simp only [Rep] at r3
    refine ⟨true, r3, iteT ⟨J3, ρ, _, ((k.ext e1).ext e2).ext e3, hz, fun t ht q J4 H4 e4 r4 => ?_⟩⟩
    exact l' J4 H4 y t w q _ _ e4.s ((r2.ext e3).ext e4).cur r4.cur ht fun s hs o J5 H5 e5 r5 => h2 s hs o J5 H5 ((((e1.trans e2).trans e3).trans e4).trans e5) (r5.back (((e1.trans e2).trans e3).trans e4))
  · have r3 : Rep J3 (.bl false) u := r3
    simp only [Rep] at r3
    exact ⟨false, r3, iteF (h2 _ hz _ J3 H3 ((e1.trans e2).trans e3) ri_bl)⟩
  · exact hz.elim
theorem xe_chain {X : Cx} {a b c : Expr} {op op' : CmpOp} {pos : Pos} {r r' : R2} {f f' : RD2} {F G K : DE} (ho : OpR X (compareOp op) r) (ho' : OpR X (compareOp op') r') (l : Lift2 r f) (l' : Lift2 r' f') (ha : XE X a F) (hb : XE X b G) (hc : XE X c K)
    (hm : lastMarks [op, op'] [b, c] = false := by with_unfolding_all rfl) : XE X (.Compare a [op, op'] [b, c] pos) (dChain f f' F G K) := pe_weak (pe_chain ho ho' ha hb hc hm) fun σ H Q h => up_chain l l' h
theorem xt_chain {X : Cx} {a b c : Expr} {op op' : CmpOp} {pos : Pos} {r r' : R2} {f f' : RD2} {F G K : DE} (ho : OpR X (compareOp op) r) (ho' : OpR X (compareOp op') r') (l : Lift2 r f) (l' : Lift2 r' f') (ha : XE X a F) (hb : XE X b G) (hc : XE X c K)
    (hm : lastMarks [op, op'] [b, c] = false := by with_unfolding_all rfl) : XT X (.Compare a [op, op'] [b, c] pos) (dTest (dChain f f' F G K)) := pt_weak (pt_chain ho ho' ha hb hc hm) fun σ H Q h => up_chain l l' (Q := fun x H' => ∃ k, x = .bl k ∧ Q k H') (by
    obtain ⟨J, ρ, P, k, h1, h2⟩ := h
    refine ⟨J, ρ, _, k, h1, fun r hr v J1 H1 e1 r1 => ?_⟩
    split at hr
    · rename_i b e
      exact ⟨b, r1.cur.bl e, h2 b hr J1 H1 e1⟩
    · exact hr.elim)
theorem l_le : Lift2 (rI0 fun i j => .bl (decide (i ≤ j))) oLe := l_I fun _ _ _ => rp_bl
theorem l_lt : Lift2 (rI0 fun i j => .bl (decide (i < j))) oLt := l_I fun _ _ _ => rp_bl
theorem xt_leLe {X : Cx} {a b c : Expr} {pos : Pos} {F G K : DE} (ha : XE X a F) (hb : XE X b G) (hc : XE X c K) (hm : lastMarks [.LtE, .LtE] [b, c] = false := by with_unfolding_all rfl) : XT X (.Compare a [.LtE, .LtE] [b, c] pos) (dTest (dChain oLe oLe F G K)) := xt_chain op_le op_le l_le l_le ha hb hc hm
theorem xt_leLt {X : Cx} {a b c : Expr} {pos : Pos} {F G K : DE} (ha : XE X a F) (hb : XE X b G) (hc : XE X c K) (hm : lastMarks [.LtE, .Lt] [b, c] = false := by with_unfolding_all rfl) : XT X (.Compare a [.LtE, .Lt] [b, c] pos) (dTest (dChain oLe oLt F G K)) := xt_chain op_le op_lt l_le l_lt ha hb hc hm
/-! ### isinstance -/
def tyD : D → Option String
  | .non => some "NoneType"
  | .bl _ => some "bool"
  | .int _ => some "int"
  | .str _ => some "str"
  | .lst _ => some "list"
  | .tup _ => some "tuple"
  | .dK _ _ => some "dict"
  | .dT _ _ => some "dict"
  | _ => none
theorem Cur.tyx {J H : Hp} {K : PySem.W.Frag} {x : R} {v : V} {t : String} (s : Same J H) (c : Cur J H x v) (h : tyD x.d = some t) : TyX K H v (.type t) := by
  cases e : x.d <;> rw [e] at h <;> first | (cases h; done) | skip
  · cases h; rw [c.non e]; exact .base .non
  · cases h; rw [c.bl e]; exact .base (.bl _)
  · cases h; rw [c.int e]; exact .base (.int _)
  · cases h; rw [c.str e]; exact .base (.str _)
  · cases h; obtain ⟨p, vs, rfl, hp, _⟩ := c.lst s e; exact .base (.lst hp)
  · cases h; obtain ⟨p, vs, rfl, hp, _⟩ := c.tup s e; exact .base (.tup hp)
  · cases h; obtain ⟨p, vs, rfl, hp, _⟩ := c.dK s e; exact .base (.dK hp)
  · cases h; obtain ⟨p, vs, rfl, hp, _⟩ := c.dT s e; exact .base (.dT hp)
def fIsi (x c : R) (P : R → Prop) : Prop := match tyD x.d, c.d with
  | some t, .ty n => (match kitB t n with
    | some b => P (.im (.bl b))
    | none => False)
  | _, _ => False
/-- .. of an instance, against an own class -/
def fIsiC (K : PySem.W.Frag) (x c : R) (P : R → Prop) : Prop := match x.d, c.d with
  | .ins C _ _, .at B => ∃ b, C8.InsC K C ∧ PySem.W.kitOne K (.ref C) (.ref B) = some b ∧ P (.im (.bl b))
  | _, _ => False
theorem Cur.ins {J H : Hp} {x : R} {v : V} {C : Addr} {ns : List Str} {ds : List D} (s : Same J H) (c : Cur J H x v) (e : x.d = .ins C ns ds) : ∃ p dx fs, v = .ref p ∧ H p = some (.ins C dx fs) ∧ fs.map (·.1) = ns ∧ Reps J ds (fs.map (·.2)) := by
  have q := c.scal e rfl
  simp only [Rep] at q
  obtain ⟨p, dx, fs, h1, h2, h3, h4⟩ := q
  exact ⟨p, dx, fs, h1, s _ _ h2, h3, h4⟩
section
variable {X : Cx} {a b e e2 o : Expr} {es : List Expr} {F G : DE} {pos p p2 apos : Pos} {A : DA}
theorem xe_isi (hg : Gl X "isinstance") (hm : X.mg "isinstance" = none) (ha : XA X [e, e2] A) (he : starEach [e, e2] X.env = (false, eval e X.env) :: starEach [e2] X.env := by rfl) (hpl : (backTo pos (starEach [e2] X.env)).any (·.1) = false := by rfl) : XE X (.Call (.Name "isinstance" p) [e, e2] [] pos) (dCB (call2 fIsi) A) :=
  xe_callB call_isi (liftA2 fun J H x y v w P Q s cx cy h k => by
    unfold fIsi at h
    split at h
    · rename_i t n e1 e2
      split at h
      · rename_i b eb
        exact ⟨v, w, .type t, .type n, b, rfl, by rw [cy.ty e2]; exact .ty n, cx.tyx s e1, kit_ty eb, k _ h _ J H (.refl s) ri_bl⟩
      · exact h.elim
    · exact h.elim) hg hm (by decide +kernel) ha (he := he) (hpl := hpl)
theorem xe_isiC (hg : Gl X "isinstance") (hm : X.mg "isinstance" = none) (ha : XA X [e, e2] A) (he : starEach [e, e2] X.env = (false, eval e X.env) :: starEach [e2] X.env := by rfl) (hpl : (backTo pos (starEach [e2] X.env)).any (·.1) = false := by rfl) : XE X (.Call (.Name "isinstance" p) [e, e2] [] pos) (dCB (call2 (fIsiC X.K)) A) :=
  xe_callB call_isi (liftA2 fun J H x y v w P Q s cx cy h k => by
    unfold fIsiC at h
    split at h
    · rename_i C ns ds B e1 e2
      obtain ⟨b, c, eb, h⟩ := h
      obtain ⟨p, dx, fs, rfl, hp, _, _⟩ := cx.ins s e1
      exact ⟨_, w, .ref C, .ref B, b, rfl, by rw [cy.at e2]; exact .own B, .base (.ins hp c.cl c.ha c.hn c.htk c.hm), eb, k _ h _ J H (.refl s) ri_bl⟩
    · exact h.elim) hg hm (by decide +kernel) ha (he := he) (hpl := hpl)
/-! ### fields -/
def dFld (K : PySem.W.Frag) (f : Str) (F : DE) (ρ : Env) (P : R → Prop) : Prop := F ρ fun x => match x with
  | .im (.ins C ns ds) => Cls K C ∧ NoAttr K C f ∧ (match getDs ns ds f with
    | some d => P (.im d)
    | none => False)
  | _ => False
theorem get_fld {J : Hp} {f : Str} : ∀ {fs : List (Str × V)} {ds : List D} {d : D}, Reps J ds (fs.map (·.2)) → getDs (fs.map (·.1)) ds f = some d → ∃ v, fs.lookup f = some v ∧ Rep J d v := by
  intro fs
  induction fs with
  | nil => intro ds d _ h; simp [getDs] at h
  | cons q fs ih =>
    intro ds d h g
    obtain ⟨n, v⟩ := q
    cases ds with
    | nil => have := h.len; simp at this
    | cons e ds =>
      obtain ⟨w, r', e1, h1, h2⟩ := h.uncons
      rw [List.map_cons] at e1
      injection e1 with e2 e3
      subst e2 e3
      by_cases hk : n = f
      · subst hk
        have e4 : getDs (((n, v) :: fs).map (·.1)) (e :: ds) n = some e := by simp [getDs]
        rw [e4] at g
        cases g
        exact ⟨v, by simp, h1⟩
      · have e4 : getDs (((n, v) :: fs).map (·.1)) (e :: ds) f = getDs (fs.map (·.1)) ds f := by simp [getDs, hk]
        rw [e4] at g
        obtain ⟨u, hu, ru⟩ := ih h2 g
        exact ⟨u, by rw [List.lookup_cons]; simp [show (f == n) = false from beq_eq_false_iff_ne.mpr (Ne.symm hk), hu], ru⟩
theorem xe_fld {f : Str} (he : XE X e F) (hb : attributeBase e f X.env (eval e X.env) = eval e X.env := by rfl) : XE X (.Attribute e f pos) (dFld X.K f F) := pe_weak (pe_fld he hb) fun σ H Q h => by
  obtain ⟨J, ρ, P, k, h1, h2⟩ := h
  refine ⟨J, ρ, _, k, h1, fun x hx v J1 H1 e1 r1 => ?_⟩
  split at hx
  · rename_i C ns ds
    obtain ⟨c1, c2, hx⟩ := hx
    have r1 : Rep J1 (.ins C ns ds) v := r1
    simp only [Rep] at r1
    obtain ⟨p, dx, fs, rfl, hp, rfl, rs⟩ := r1
    split at hx
    · rename_i d ed
      obtain ⟨w, ew, rw'⟩ := get_fld rs ed
      exact ⟨p, C, dx, fs, w, rfl, e1.s _ _ hp, c1, c2, ew, h2 _ hx _ J1 H1 e1 rw'⟩
    · exact hx.elim
  · exact hx.elim
/-! ### calls -/
abbrev DF := List D → (D → Prop) → Prop
def spD (n : Nat) (f : DF) : Sp := fun vs H Q _ => ∃ J ds P, Same J H ∧ Reps J ds vs ∧ ds.length = n ∧ f ds P ∧ ∀ d, P d → ∀ v J' H', Ext J H J' H' → Rep J' d v → Q v H'
theorem spD_len {n : Nat} {f : DF} {vs : List V} {H : Hp} {Q : VK} {E : XK} (h : spD n f vs H Q E) : vs.length = n := by
  obtain ⟨J, ds, P, _, r, l, _⟩ := h
  rw [← r.len]
  exact l
theorem spD_imp {n : Nat} {f g : DF} (i : ∀ ds P, g ds P → f ds P) : ∀ vs H Q E, spD n g vs H Q E → spD n f vs H Q E := fun vs H Q E ⟨J, ds, P, s, r, l, h, k⟩ => ⟨J, ds, P, s, r, l, i ds P h, k⟩
def dCall (n : Nat) (f : DF) (A : DA) (ρ : Env) (P : R → Prop) : Prop := A ρ fun rs => allIm rs = true ∧ rs.length = n ∧ f (rs.map R.d) fun d => P (.im d)
theorem up_call {n : Nat} {f : DF} {σ : L2.St} {H : Hp} {Q : VK} (h : up (dCall n f A) σ H Q) : tCall (spD n f) [] C8.E0 (upA A) σ H Q := by
  obtain ⟨J, ρ, P, k, h1, h2⟩ := h
  refine ⟨J, ρ, _, k, h1, fun rs hrs vs J1 H1 e1 r1 => ?_⟩
  obtain ⟨a1, a2, a3⟩ := hrs
  rw [List.append_nil]
  refine ⟨J1, rs.map R.d, _, e1.s, r1.freeze e1 a1, by rw [List.length_map]; exact a2, a3, fun d hd v J' H' e2 r2 => h2 _ hd v J' H' (e1.trans e2) r2⟩
theorem xe_call {k j n : Nat} {x : Str} {f : DF} (c : C8.Cal X.prog X.w X.K X.mg X.base k x (spD n f) []) (hr : Room j X.A) (hk : k ≤ j) (hg : Gl X x) (ha : XA X (e :: es) A)
    (hdb : (x == ("__debug__" : Str)) = false := by decide) (he : starEach (e :: es) X.env = (false, eval e X.env) :: starEach es X.env := by rfl) (hpl : (backTo pos (starEach es X.env)).any (·.1) = false := by rfl) :
    XE X (.Call (.Name x p) (e :: es) [] pos) (dCall n f A) := pe_weak (C8.pe_c c hr hk hg ha hdb he hpl) fun σ H Q h => up_call h
/-- a method of an instance that stays as it is -/
def dMeth (C : Addr) (m : Str) (n : Nat) (f : DF) (F : DE) (A : DA) (ρ : Env) (P : R → Prop) : Prop := F ρ fun x => match x with
  | .im (.ins B ns ds) => B = C ∧ ns.contains m = false ∧ A ρ fun rs => allIm rs = true ∧ rs.length + 1 = n ∧ f (.ins B ns ds :: rs.map R.d) fun d => P (.im d)
  | _ => False
theorem no_fld {m : Str} : ∀ {fs : List (Str × V)}, (fs.map (·.1)).contains m = false → fs.lookup m = none
  | [], _ => rfl
  | (n, v) :: fs, h => by
    rw [List.map_cons, List.contains_cons, Bool.or_eq_false_iff] at h
    rw [List.lookup_cons, h.1]
    exact no_fld h.2
theorem up_meth {C : Addr} {m : Str} {n : Nat} {f : DF} {σ : L2.St} {H : Hp} {Q : VK} (h : up (dMeth C m n f F A) σ H Q) : tMeth C m (spD n f) [] C8.E0 (up F) (upA A) σ H Q := by
  obtain ⟨J, ρ, P, k, h1, h2⟩ := h
  refine ⟨J, ρ, _, k, h1, fun x hx v J1 H1 e1 r1 => ?_⟩
  split at hx
  · rename_i B ns ds
    obtain ⟨rfl, c2, hx⟩ := hx
    have r1 : Rep J1 (.ins B ns ds) v := r1
    have r1' := r1
    simp only [Rep] at r1
    obtain ⟨p, dx, fs, rfl, hp, rfl, rs⟩ := r1
    refine ⟨p, dx, fs, rfl, e1.s _ _ hp, no_fld c2, J1, ρ, _, k.ext e1, hx, fun rs hrs vs J2 H2 e2 r2 => ?_⟩
    obtain ⟨a1, a2, a3⟩ := hrs
    rw [List.append_nil]
    exact ⟨J2, _, _, e2.s, .cons (r1'.mono e2.j) (r2.freeze e2 a1), by rw [List.length_cons, List.length_map]; exact a2, a3, fun d hd v J' H' e3 r3 => h2 _ hd v J' H' ((e1.trans e2).trans e3) r3⟩
  · exact hx.elim
theorem xe_meth {k j n : Nat} {C : Addr} {m : Str} {f : DF} {pl : Sem Bool} (c : C8.Met X.prog X.w X.K X.mg X.base k C m (spD n f) []) (hr : Room j X.A) (hk : k ≤ j) (ho : XE X o F) (ha : XA X (e :: es) A)
    (hst : starEach (e :: es) X.env = (false, eval e X.env) :: starEach es X.env := by rfl) (hpl : (backTo pos (starEach es X.env)).any (·.1) = false := by rfl)
    (ht : eval (.Call (.Attribute o m apos) (e :: es) [] pos) X.env = (do
      let ov ← eval o X.env
      standAt apos.atName
      let (f, first) ← holding [ov] (getMethod ov m pl)
      callWith pos f first (backTo pos (starEach (e :: es) X.env)) (backToKw pos (keywordEach [] X.env))) := by rfl) :
    XE X (.Call (.Attribute o m apos) (e :: es) [] pos) (dMeth C m n f F A) := pe_weak (C8.pe_mt (pl := pl) c hr hk ho ha hst hpl ht) fun σ H Q h => up_meth h
end
/-! ### a def -/
def startE (N : List Str) (ds : List D) : Env := ds.map (fun d => some (.im d)) ++ List.replicate (N.length - ds.length) none
def runD (N : List Str) (T : DTS) : DF := fun ds P => T { nx := fun _ => P .non, rt := P } (startE N ds)
theorem start_ok {J H : Hp} {N : List Str} {ds : List D} {vs : List V} (s : Same J H) (r : Reps J ds vs) : Ok J H (startE N ds) (L2.start N vs) := by
  have nm : ∀ (i : Nat) (l : L), (startE N ds)[i]? = some (some l) → ∃ d, l = .im d ∧ ds[i]? = some d := fun i l h => by
    unfold startE at h
    rw [List.getElem?_append] at h
    split at h
    · rw [List.getElem?_map] at h
      obtain ⟨d, hd, e⟩ := Option.map_eq_some_iff.mp h
      cases e
      exact ⟨d, rfl, hd⟩
    · rw [List.getElem?_replicate] at h
      split at h <;> cases h
  refine ⟨s, ?_, fun i d h => ?_, fun i d h => ?_, fun i j d e p h _ _ _ => ?_⟩
  · unfold startE L2.start
    rw [List.length_append, List.length_append, List.length_map, List.length_map, List.length_replicate, List.length_replicate, r.len]
  · obtain ⟨d', e, hd⟩ := nm i _ h
    cases e
    obtain ⟨v, hv, rv⟩ := r.get hd
    refine ⟨v, ?_, rv⟩
    unfold L2.start
    have hl : i < vs.length := (List.getElem?_eq_some_iff.mp hv).1
    rw [List.getElem?_append_left (by rw [List.length_map]; exact hl), List.getElem?_map, hv]
    rfl
  · obtain ⟨d', e, hd⟩ := nm i _ h
    cases e
  · obtain ⟨d', e, hd⟩ := nm i _ h
    cases e
theorem run_ok {X : Cx} {body : List Stmt} {T : DTS} {N : List Str} {n : Nat} (h : XSs X body T) {vs : List V} {H : Hp} {Q : VK} {E : XK} (hsp : spD n (runD N T) vs H Q E) : ∃ t, PSs X body t ∧ t { nx := fun _ H' => Q .non H', rt := Q } (L2.start N vs) H := by
  obtain ⟨J, ds, P, s, r, l, hT, k⟩ := hsp
  refine ⟨_, h, J, H, J, startE N ds, _, start_ok s r, ⟨.refl _, .refl _, fun _ _ q => .inl q, fun i d p q _ => ?_⟩, hT, ⟨fun k' f' h' => ?_, fun _ _ h' => h'.elim, fun _ _ h' => h'.elim, fun e r' h' => k _ h' _ _ _ e r'⟩⟩
  · unfold startE at q
    rw [List.getElem?_append] at q
    split at q
    · rw [List.getElem?_map] at q
      obtain ⟨d, hd, e⟩ := Option.map_eq_some_iff.mp q
      cases e
    · rw [List.getElem?_replicate] at q
      split at q <;> cases q
  · exact k _ h' _ _ _ (f'.toExt k'.s) rp_non
section
variable {P : Program} {w : World} {K : PySem.W.Frag} {mg : Str → Option Value} {base : Heap}
theorem fnD {x qual : Str} {params : Arguments} {body : List Stmt} {scope : Scope} {dvs : List V} {kws : List (Str × V)} {f : Addr} {fd : FuncData} {N ps : List Str} {k : Nat} {T : DTS} (F : FunD K x qual params body scope dvs kws f fd) (S : FnScope N ps scope)
    (hbody : ∀ (cdv : Value) (A : Around) (outer : List PySem.Env) (s : Shared) (H : Hp) (E : XK), Room k (A.deeper (envOfC qual scope s.heap.objs.size f cdv)) → XSs (cxOf C8.CX0 P w K mg base N qual scope f cdv A outer s H E).nox body T) :
    FnOk P w K mg base C8.CX0 (k + 1) f fd ps (spD ps.length (runD N T)) :=
  F.ok S (fun vs H Q E h => spD_len h) fun cdv A outer s H vs Q E hr hsp => by
    obtain ⟨t, h, q⟩ := run_ok (hbody cdv A outer s H E hr) hsp
    exact ⟨t, h.nox, q⟩
end
end Dl
set_option Elab.async false
set_option linter.all false
set_option maxRecDepth 100000
set_option maxHeartbeats 4000000
/-! The data layer: dicts compared, displays of dicts, the loop over a dict's items. -/
namespace Dl
open PySem PySem.Spec PyProof.Rows L2

section
variable {X : Cx}
theorem op_dictE (hu : X.A.units < cLine) : OpR X (compareOp .Eq) (fun x y H Q => ∃ a b kvs, x = .ref a ∧ y = .ref b ∧ H a = some (.dK kvs) ∧ H b = some (.dK []) ∧ Q (.bl kvs.isEmpty) H) := by
  intro pins s σ H x y v u Q I rx ry h
  obtain ⟨a, b, kvs, rfl, rfl, ea, eb, q⟩ := h
  obtain rfl : v = Value.ref a := rx
  obtain rfl : u = Value.ref b := ry
  obtain ⟨_, ya, va, ra, da⟩ := (show ObjOk X.prog X.w H s.heap a (.dK kvs) from I.hok a _ ea)
  obtain ⟨_, yb, vb, rb, db⟩ := (show ObjOk X.prog X.w H s.heap b (.dK []) from I.hok b _ eb)
  cases rb
  have hl : kvs.length = va.length := ra.length
  refine PySem.W.keq_eq (knd := mixKind X.prog X.w) (r := true) ya yb da db hu (fun e => ?_) (fin_bl I q ?_)
  · cases va with
    | nil => exact .nil
    | cons p q => cases e
  · cases kvs with
    | nil =>
      cases ra
      rfl
    | cons p q =>
      cases va with
      | nil => cases hl
      | cons p' q' => rfl
theorem op_dictNe (hu : X.A.units < cLine) : OpR X (compareOp .NotEq) (fun x y H Q => ∃ a b kvs, x = .ref a ∧ y = .ref b ∧ H a = some (.dK kvs) ∧ H b = some (.dK kvs) ∧ (kvs.map (·.1)).Nodup ∧ (∀ p ∈ kvs, flatB p.2 = true) ∧ Q (.bl false) H) := by
  intro pins s σ H x y v u Q I rx ry h
  obtain ⟨a, b, kvs, rfl, rfl, ea, eb, nd, fl, q⟩ := h
  obtain rfl : v = Value.ref a := rx
  obtain rfl : u = Value.ref b := ry
  obtain ⟨_, ya, va, ra, da⟩ := (show ObjOk X.prog X.w H s.heap a (.dK kvs) from I.hok a _ ea)
  obtain ⟨_, yb, vb, rb, db⟩ := (show ObjOk X.prog X.w H s.heap b (.dK kvs) from I.hok b _ eb)
  have hl : va.length = vb.length := ra.length.symm.trans rb.length
  exact PySem.W.keq_ne (knd := mixKind X.prog X.w) (r := true) ya yb da db hu (fun _ => hits_all rb ra fun p hp => ⟨val_nodup nd p hp, fl p hp⟩) (fin_bl I q (by simp [hl]))
end
def oEqE (x y : R) (P : R → Prop) : Prop := match x.d, y.d with
  | .dK ks _, .dK [] [] => P (.im (.bl ks.isEmpty))
  | _, _ => False
theorem reps_fst {kvs : List (Key × V)} (h : kvs.map (·.1) = []) : kvs = [] := List.map_eq_nil_iff.mp h
theorem l_eqE : Lift2 (fun x y H Q => ∃ a b kvs, x = .ref a ∧ y = .ref b ∧ H a = some (.dK kvs) ∧ H b = some (.dK []) ∧ Q (.bl kvs.isEmpty) H) oEqE := fun J H x y v w P Q s cx cy h k => by
  unfold oEqE at h
  split at h
  · rename_i ks ds e1 e2
    obtain ⟨p, kvs, rfl, hp, rfl, rs⟩ := cx.dK s e1
    obtain ⟨q, kvs', rfl, hq, e3, rt⟩ := cy.dK s e2
    rw [reps_fst e3] at hq
    refine ⟨p, q, kvs, rfl, rfl, hp, hq, k _ h _ J H (.refl s) ?_⟩
    have e : kvs.isEmpty = (kvs.map (·.1)).isEmpty := by cases kvs <;> rfl
    rw [e]
    exact ri_bl
  · exact h.elim
def flatS : D → Bool
  | .non => true
  | .bl _ => true
  | .int _ => true
  | .str _ => true
  | _ => false
theorem flatS_ok {J J' : Hp} {d : D} {v : V} (h : flatS d = true) (r : Rep J d v) : Rep J' d v ∧ flatB v = true := by
  cases d <;> first | (cases h; done) | (simp only [Rep] at r ⊢; subst r; exact ⟨rfl, rfl⟩)
theorem flatSs_ok {J : Hp} : ∀ {ds : List D} {vs : List V}, ds.all flatS = true → Reps J ds vs → ∀ v ∈ vs, flatB v = true
  | [], _, _, r, v, h => by rw [r.unnil] at h; cases h
  | d :: ds, _, h, r, v, hv => by
    simp only [List.all_cons, Bool.and_eq_true] at h
    obtain ⟨u, w, rfl, r1, r2⟩ := r.uncons
    rcases List.mem_cons.mp hv with e | e
    · rw [e]; exact (flatS_ok (J' := J) h.1 r1).2
    · exact flatSs_ok h.2 r2 v e
theorem reps_flat {J J' : Hp} : ∀ {ds : List D} {vs : List V}, ds.all flatS = true → Reps J ds vs → Reps J' ds vs
  | [], _, _, r => by rw [r.unnil]; exact Reps.nil
  | d :: ds, _, h, r => by
    simp only [List.all_cons, Bool.and_eq_true] at h
    obtain ⟨u, w, rfl, r1, r2⟩ := r.uncons
    exact Reps.cons (flatS_ok h.1 r1).1 (reps_flat h.2 r2)
theorem flat_same {J J' : Hp} {d : D} {v w : V} (h : flatS d = true) (r : Rep J d v) (r' : Rep J' d w) : v = w := by
  cases d <;> first | (cases h; done) | (simp only [Rep] at r r'; rw [r, r'])
theorem flats_same {J J' : Hp} : ∀ {ds : List D} {vs ws : List V}, ds.all flatS = true → Reps J ds vs → Reps J' ds ws → vs = ws
  | [], _, _, _, r, r' => by rw [r.unnil, r'.unnil]
  | d :: ds, _, _, h, r, r' => by
    simp only [List.all_cons, Bool.and_eq_true] at h
    obtain ⟨u, w, rfl, r1, r2⟩ := r.uncons
    obtain ⟨u', w', rfl, r3, r4⟩ := r'.uncons
    rw [flat_same h.1 r1 r3, flats_same h.2 r2 r4]
/-- a dict against one of the same contents -/
def oNeSame (x y : R) (P : R → Prop) : Prop := match x.d, y.d with
  | .dK ks ds, .dK ks' ds' => ks = ks' ∧ ds = ds' ∧ ks.Nodup ∧ ds.all flatS = true ∧ P (.im (.bl false))
  | _, _ => False
theorem pairs_ext {kvs kvs' : List (Key × V)} (h1 : kvs.map (·.1) = kvs'.map (·.1)) (h2 : kvs.map (·.2) = kvs'.map (·.2)) : kvs = kvs' := by
  induction kvs generalizing kvs' with
  | nil =>
    cases kvs' with
    | nil => rfl
    | cons _ _ => cases h1
  | cons p r ih =>
    cases kvs' with
    | nil => cases h1
    | cons p' r' =>
      simp only [List.map_cons, List.cons.injEq] at h1 h2
      rw [ih h1.2 h2.2, Prod.ext h1.1 h2.1]
theorem l_neSame : Lift2 (fun x y H Q => ∃ a b kvs, x = .ref a ∧ y = .ref b ∧ H a = some (.dK kvs) ∧ H b = some (.dK kvs) ∧ (kvs.map (·.1)).Nodup ∧ (∀ p ∈ kvs, flatB p.2 = true) ∧ Q (.bl false) H) oNeSame := fun J H x y v w P Q s cx cy h k => by
  unfold oNeSame at h
  split at h
  · rename_i ks ds ks' ds' e1 e2
    obtain ⟨rfl, rfl, h3, h4, h5⟩ := h
    obtain ⟨p, kvs, rfl, hp, e3, rs⟩ := cx.dK s e1
    obtain ⟨q, kvs', rfl, hq, e4, rt⟩ := cy.dK s e2
    have e5 : kvs' = kvs := pairs_ext (e4.trans e3.symm) (flats_same h4 rt rs)
    rw [e5] at hq
    refine ⟨p, q, kvs, rfl, rfl, hp, hq, by rw [e3]; exact h3, fun z hz => flatSs_ok h4 rs _ (List.mem_map_of_mem hz), k _ h5 _ J H (.refl s) ri_bl⟩
  · exact h.elim
def dNewK (_ : Env) (P : R → Prop) : Prop := P (.nw (.dK [] []))
def dDisp1 (F G : DE) (ρ : Env) (P : R → Prop) : Prop := F ρ fun k => G ρ fun v => match keyD k.d, v with
  | some key, .im d => P (.nw (.dK [key] [d]))
  | _, _ => False
section
variable {X : Cx} {a b : Expr} {F G : DE} {pos : Pos}
theorem xe_eqE (hu : X.A.units < cLine) (ha : XE X a F) (hb : XE X b G) : XE X (.Compare a [.Eq] [b] pos) (dOp oEqE F G) := xe_cmp (op_dictE hu) l_eqE ha hb (nomark _)
theorem xt_eqE (hu : X.A.units < cLine) (ha : XE X a F) (hb : XE X b G) : XT X (.Compare a [.Eq] [b] pos) (dTest (dOp oEqE F G)) := xt_cmp (op_dictE hu) l_eqE ha hb (nomark _)
theorem xt_neSame (hu : X.A.units < cLine) (ha : XE X a F) (hb : XE X b G) : XT X (.Compare a [.NotEq] [b] pos) (dTest (dOp oNeSame F G)) := xt_cmp (op_dictNe hu) l_neSame ha hb (nomark _)
theorem xe_newK : XE X (.Dict [] [] pos) dNewK := pe_weak pe_dnewK fun σ H Q h => by
  obtain ⟨J, ρ, P, k, h1, h2⟩ := h
  intro p hp
  exact h2 _ h1 _ J _ (Ext.new k.s hp) (new_dK k.s hp rfl Reps.nil)
theorem xe_disp1 (ha : XE X a F) (hb : XE X b G) : XE X (.Dict [some a] [b] pos) (dDisp1 F G) := pe_weak (pe_disp (pps_cons ha hb pps_nil) rfl rfl (by simp) (by simp)) fun σ H Q h => by
  obtain ⟨J, ρ, P, k, h1, h2⟩ := h
  intro p hp
  have e0 : Ext J H J (upd H p (.dK [])) := Ext.new k.s hp
  refine ⟨J, ρ, _, k.ext e0, h1, fun x hx v J1 H1 e1 r1 => ⟨J1, ρ, _, (k.ext e0).ext e1, hx, fun y hy w J2 H2 e2 r2 => ?_⟩⟩
  split at hy
  · rename_i key d ek
    have ev := keyCur r1.cur ek
    subst ev
    have r2 : Rep J2 d w := r2
    have hp2 : H2 p = some (.dK []) := e2.h _ _ (e1.h _ _ upd_same)
    have hj2 : J2 p = none := e2.out (e1.out (k.s.free hp) upd_same) (e1.h _ _ upd_same)
    refine ⟨hp2, [(key, w)], rfl, Nat.le_add_left 1 14, ?_⟩
    have e12 := (e0.trans e1).trans e2
    refine h2 _ hy _ J2 _ ⟨e12.j, fun b u q => by rw [upd_ne (ne_of_none q hp)]; exact e12.h _ _ q, fun b u q => by rw [upd_ne (ne_of_none q hj2)]; exact e12.s _ _ q, e12.loc⟩ ?_
    refine ⟨p, .dK (mergeK [] [(key, w)]), rfl, hp, hj2, upd_same, ?_⟩
    exact ⟨rfl, .one r2⟩
  · exact hy.elim
end
/-! ### for a, b in d.items(): the other slots hold flat data -/
def keyFlat (k : Key) : D := keyV k
def itemsD (ks : List Key) (ds : List D) : List D := (ks.zip ds).map fun p => D.tup [keyV p.1, p.2]
def flatEnv (ρ : Env) : Bool := ρ.all fun l => match l with
  | none => true
  | some (.im d) => flatS d
  | some (.mu _) => false
def dItems (i : Nat) (g : DG) (T : DTS) (DD : DEnds) (ρ : Env) : Prop := match ρ[i]? with
  | some (some (.im (.dK ks ds))) => ds.all flatS = true ∧ flatEnv (ρ.set i none) = true ∧
    forRun g T { nx := fun ρ' => flatEnv ρ' = true ∧ DD.nx ρ', rt := fun d => flatS d = true ∧ DD.rt d, bk := fun ρ' => flatEnv ρ' = true ∧ DD.bk ρ', ct := fun ρ' => flatEnv ρ' = true ∧ DD.ct ρ' } (itemsD ks ds) (ρ.set i none)
  | _ => False
theorem flatEnv_at {ρ : Env} (h : flatEnv ρ = true) {i : Nat} {l : L} (e : ρ[i]? = some (some l)) : ∃ d, l = .im d ∧ flatS d = true := by
  have q := List.all_eq_true.mp h _ (List.mem_of_getElem? e)
  cases l with
  | im d => exact ⟨d, rfl, q⟩
  | mu d => exact absurd q Bool.false_ne_true
theorem flat_ok {J J' H' : Hp} {H : Hp} {ρ : Env} {σ : L2.St} (h : flatEnv ρ = true) (k : Ok J H ρ σ) (s : Same J' H') : Ok J' H' ρ σ :=
  ⟨s, k.len, fun i d e => (by
    obtain ⟨d', e', f⟩ := flatEnv_at h e
    cases e'
    obtain ⟨v, h1, h2⟩ := k.im i d e
    exact ⟨v, h1, (flatS_ok f h2).1⟩), fun i d e => (by
    obtain ⟨d', e', f⟩ := flatEnv_at h e
    cases e'), fun i j d e p h1 _ _ _ => (by
    obtain ⟨d', e', f⟩ := flatEnv_at h h1
    cases e')⟩
theorem flat_fr {J0 H0 J H : Hp} {ρ : Env} {σ : L2.St} (h : flatEnv ρ = true) (e : Ext J0 H0 J H) : Fr J0 H0 J H ρ σ := ⟨e.j, e.h, e.loc, fun i d p q _ => by
    obtain ⟨d', e', f⟩ := flatEnv_at h q
    cases e'⟩
theorem Ok.blur {J H : Hp} {ρ : Env} {σ : L2.St} (k : Ok J H ρ σ) (i : Nat) : Ok J H (ρ.set i none) σ := by
  have off : ∀ (j : Nat) (l : L), (ρ.set i none)[j]? = some (some l) → ρ[j]? = some (some l) := fun j l h => by
    by_cases hij : i = j
    · subst hij
      have hl : i < ρ.length := by
        have := (List.getElem?_eq_some_iff.mp h).1
        rwa [List.length_set] at this
      rw [List.getElem?_set_self hl] at h
      cases h
    · rw [List.getElem?_set_ne hij] at h
      exact h
  exact ⟨k.s, by rw [List.length_set]; exact k.len, fun j e h => k.im j e (off j _ h), fun j e h => k.mu j e (off j _ h), fun j l e f p h1 h2 h3 h4 => k.ap j l e f p (off j _ h1) (off l _ h2) h3 h4⟩
theorem items_get {J : Hp} {kvs : List (Key × V)} {ds : List D} (rs : Reps J ds (kvs.map (·.2))) {i : Nat} {d : D} (h : (itemsD (kvs.map (·.1)) ds)[i]? = some d) : ∃ k v e, kvs[i]? = some (k, v) ∧ Rep J e v ∧ d = .tup [keyV k, e] ∧ ds[i]? = some e := by
  unfold itemsD at h
  rw [List.getElem?_map] at h
  obtain ⟨p, hp, rfl⟩ := Option.map_eq_some_iff.mp h
  rw [List.getElem?_zip_eq_some] at hp
  obtain ⟨h1, h2⟩ := hp
  rw [List.getElem?_map] at h1
  obtain ⟨q, hq, e1⟩ := Option.map_eq_some_iff.mp h1
  obtain ⟨v, hv, rv⟩ := rs.get h2
  rw [List.getElem?_map, hq] at hv
  cases hv
  exact ⟨q.1, q.2, p.2, hq, rv, by rw [e1], h2⟩
theorem itemsD_len {J : Hp} {kvs : List (Key × V)} {ds : List D} (rs : Reps J ds (kvs.map (·.2))) : (itemsD (kvs.map (·.1)) ds).length = kvs.length := by
  have := put_len rs
  simp [itemsD]
  omega
theorem xs_items {X : Cx} {x : Str} {i : Nat} {px apos cpos tpos pos : Pos} {elts : List Expr} {kk : Nat} {body : List Stmt} {is : List Nat} {g : DG} {T : DTS} (hp : PassesOwn (model X.prog X.w) X.A X.env X.xe) (hc : X.calm = true) (hN : X.N[i]? = some x) (hv : Vis X.env.scope x) (hg : XG X (.Tuple elts kk tpos) is g) (hb : XSs X body T)
    (hx : PE X (.Name x px) (tVar i)) (hline : (apos.endLine == cpos.line) = true := by rfl) (hbase : attributeBase (.Name x px) "items" X.env (eval (.Name x px) X.env) = eval (.Name x px) X.env := by rfl) (hs : ∀ y, foldedSetIterable (.Call (.Attribute (.Name x px) "items" apos) [] [] cpos) X.env y = pure y := by intro _; rfl) :
    XS X (.For (.Tuple elts kk tpos) (.Call (.Attribute (.Name x px) "items" apos) [] [] cpos) body [] pos) (dItems i g T) :=
  ps_weak (ps_lock (ps_for hp hc (pi_items hx hbase hline) hg hb hs)) fun E σ H h => by
    obtain ⟨J0, H0, J, ρ, DD, k, f, h1, t⟩ := h
    unfold dItems at h1
    split at h1
    · rename_i ks ds ed
      obtain ⟨fd, fe, h1⟩ := h1
      obtain ⟨v, ev, rv⟩ := k.im i _ ed
      simp only [Rep] at rv
      obtain ⟨d, kvs, rfl, hd, rfl, rs⟩ := rv
      have hH : H d = some (.dK kvs) := k.s _ _ hd
      refine ⟨d, .dK kvs, hH, True.intro, fun od => ?_⟩
      have EJ : Hp := fun _ => none
      have hlk : upd H d (.frz od (.dK kvs)) d = some (.frz od (.dK kvs)) := upd_same
      refine ⟨.ref d, ev, d, od, kvs, rfl, hlk, ?_⟩
      have sE : ∀ H' : Hp, Same (fun _ => none) H' := fun H' b o q => nomatch q
      have k0 : Ok (fun _ => none) (upd H d (.frz od (.dK kvs))) (ρ.set i none) σ := flat_ok fe (k.blur i) (sE _)
      have f0 : Fr (fun _ => none) (upd H d (.frz od (.dK kvs))) (fun _ => none) (upd H d (.frz od (.dK kvs))) (ρ.set i none) σ := flat_fr fe (Ext.refl (sE _))
      have rs0 : Reps (fun _ => none) ds (kvs.map (·.2)) := reps_flat fd rs
      have up' : ∀ {J' H' : Hp}, Fr (fun _ => none) (upd H d (.frz od (.dK kvs))) J' H' [] [] → Same H (upd H' d (.dK kvs)) := fun f' b o q => by
        by_cases hb : b = d
        · subst hb; rw [upd_same]; rw [hH] at q; exact q
        · rw [upd_ne hb]; exact f'.h _ _ (by rw [upd_ne hb]; exact q)
      have wk := walk_items (d := d) (o := od) (kvs := kvs)
      refine for_it wk (fun j σ' H' => ∃ J' ρ', Ok J' H' ρ' σ' ∧ Fr (fun _ => none) (upd H d (.frz od (.dK kvs))) J' H' ρ' σ' ∧ forRun g T _ ((itemsD (kvs.map (·.1)) ds).drop j) ρ') ⟨_, _, k0, f0, h1⟩ (fun j σ' H' _ ⟨J', ρ', k', f', _⟩ => f'.h _ _ hlk) (fun j x σ' H' H2 hj ⟨J', ρ', k', f', r'⟩ y => ?_) (fun σ' H' ⟨J', ρ', k', f', r'⟩ => ?_)
      · have hl : j < (itemsD (kvs.map (·.1)) ds).length := by rw [itemsD_len rs]; exact hj
        obtain ⟨kk, vv, e, g1, g2, g3, g4⟩ := items_get rs0 (List.getElem?_eq_getElem hl)
        obtain ⟨T', x', y', rfl, hT, h2, e1, e2⟩ := y
        have e1 : (kvs[j]?.map fun kv => kV kv.1) = some x' := e1
        have e2 : kvs[j]?.map Prod.snd = some y' := e2
        rw [g1] at e1 e2
        cases e1
        cases e2
        have rk : Rep J' (keyV kk) (kV kk) := by cases kk <;> simp only [keyV, kV, Rep]
        have re : Rep J' e vv := (flatS_ok (by
          have := List.all_eq_true.mp fd e (List.mem_of_getElem? g4)
          exact this) g2).1
        obtain ⟨J2, x2, rx⟩ := ext_tup k'.s hT h2 (.cons rk (.one re))
        rw [List.drop_eq_getElem_cons hl, g3] at r'
        refine ⟨J2, H2, J2, ρ', .im (.tup [keyV kk, e]), _, k'.ext x2, .refl x2.s, rx, r', fun ρ2 σ2 J3 H3 k3 x3 f3 o3 n3 => ?_⟩
        have g3' : Fr (fun _ => none) (upd H d (.frz od (.dK kvs))) J3 H3 ρ2 σ2 := f3 _ _ (f'.ext x2)
        refine ⟨_, _, J3, ρ2, _, k3, g3', n3, ⟨fun k4 f4 n4 => ⟨_, _, k4, f4, n4⟩, fun k4 f4 n4 => ?_, fun k4 f4 n4 => ⟨_, _, k4, f4, n4⟩, fun {d4 v4 J4 H4} x4 r4 n4 => ?_⟩⟩
        · refine ⟨f4.h _ _ hlk, ?_⟩
          have s4 : Same H (upd _ d (.dK kvs)) := up' ⟨f4.j, f4.h, f4.loc, fun i d p q _ => by simp at q⟩
          exact t.nx (flat_ok n4.1 k4 (k.s.trans s4)) (flat_fr n4.1 ((f.toExt k.s).trans (Ext.grow k.s s4))) n4.2
        · refine ⟨x4.h _ _ hlk, ?_⟩
          have s4 : Same H (upd H4 d (.dK kvs)) := up' ⟨x4.j, x4.h, x4.loc, fun i d p q _ => by simp at q⟩
          exact t.rt ((f.toExt k.s).trans (Ext.grow k.s s4)) (flatS_ok n4.1 r4).1 n4.2
      · have e0 : (itemsD (kvs.map (·.1)) ds).drop kvs.length = [] := List.drop_eq_nil_of_le (by rw [itemsD_len rs]; exact Nat.le_refl _)
        rw [e0] at r'
        have r' : flatEnv ρ' = true ∧ DD.nx ρ' := r'
        refine ⟨f'.h _ _ hlk, ?_⟩
        have s4 : Same H (upd H' d (.dK kvs)) := up' ⟨f'.j, f'.h, f'.loc, fun i d p q _ => by simp at q⟩
        exact t.nx (flat_ok r'.1 k' (k.s.trans s4)) (flat_fr r'.1 ((f.toExt k.s).trans (Ext.grow k.s s4))) r'.2
    · exact h1.elim
end Dl
set_option Elab.async false
set_option linter.all false
set_option maxRecDepth 100000
set_option maxHeartbeats 4000000
/-! The data layer: odds and ends for printed walks. -/
namespace Dl
open PySem PySem.Spec PyProof.Rows L2

theorem Room.u0 {k : Nat} {A : Around} (h : Room k A) : A.units < cLine := by
  have := h.un
  omega
theorem Room.u1 {k : Nat} {A : Around} (h : Room k A) : A.units + 1 < cLine := by
  have := h.un
  omega
theorem Room.u64 {k : Nat} {A : Around} (h : Room k A) : A.units + 64 < cLine := by
  have := h.un
  omega
theorem l_ipAdd : Lift2 (ipI fun i j => i + j) oAdd := fun J H x y v w P Q s cx cy h k => by
  unfold oAdd oI at h
  split at h
  · rename_i i j e1 e2
    exact ⟨i, j, cx.int e1, cy.int e2, k _ h _ J H (.refl s) ri_int⟩
  · exact h.elim
theorem l_ipSub : Lift2 (ipI fun i j => i - j) oSub := fun J H x y v w P Q s cx cy h k => by
  unfold oSub oI at h
  split at h
  · rename_i i j e1 e2
    exact ⟨i, j, cx.int e1, cy.int e2, k _ h _ J H (.refl s) ri_int⟩
  · exact h.elim
/-- a def as it stands behind the top, by its name -/
structure De (K : PySem.W.Frag) (mg : Str → Option Value) (x : Str) (st : Stmt) : Prop where
  ex : ∃ (f : Addr) (fd : FuncData), FunD K x x (defArgs st) (defBody st) (defScope st) [] [] f fd ∧ mg x = some (.ref f)
/-- a method -/
structure Me (K : PySem.W.Frag) (C : Addr) (m qual : Str) (st : Stmt) : Prop where
  ex : ∃ (f : Addr) (fd : FuncData), FunD K m qual (defArgs st) (defBody st) (defScope st) [] [] f fd ∧ Cls K C ∧ Meth K C m f
section
variable {P : Program} {w : World} {K : PySem.W.Frag} {mg : Str → Option Value} {base : Heap}
theorem cal_imp {k n : Nat} {x : Str} {f g : DF} (c : C8.Cal P w K mg base k x (spD n f) []) (i : ∀ ds P, g ds P → f ds P) : C8.Cal P w K mg base k x (spD n g) [] := by
  obtain ⟨a, fd, ps, ds, h1, h2⟩ := c.ex
  exact ⟨a, fd, ps, ds, h1.imp (spD_imp i), h2⟩
theorem met_imp {k n : Nat} {C : Addr} {x : Str} {f g : DF} (c : C8.Met P w K mg base k C x (spD n f) []) (i : ∀ ds P, g ds P → f ds P) : C8.Met P w K mg base k C x (spD n g) [] := by
  obtain ⟨a, fd, ps, ds, h0, h1, h2, h3⟩ := c.ex
  exact ⟨a, fd, ps, ds, h0, h1, h2.imp (spD_imp i), h3⟩
end
/-! ### every second sign of a text -/
def dStr2 (F : DE) (ρ : Env) (P : R → Prop) : Prop := F ρ fun x => match x.d with
  | .str z => z.length ≤ 100000 ∧ ∀ u : Str, u.length ≤ z.length → (∀ c ∈ u.cps.toList, c ∈ z.cps.toList) → P (.im (.str u))
  | _ => False
theorem by2 (x : Str) (st : Int × Tok) : ∀ c ∈ (Txt.sliceBy x none none st).cps.toList, c ∈ x.cps.toList := by
  intro c hc
  unfold Txt.sliceBy at hc
  split at hc
  · exact hc
  · have hc : c ∈ (slicePicked x none none (some st)).filterMap (x.cps[·]?) := hc
    obtain ⟨i, _, hi⟩ := List.mem_filterMap.mp hc
    exact Array.mem_toList_iff.mpr (Array.mem_of_getElem? hi)
theorem pe_str2 {X : Cx} {e : Expr} {te : TE} {k : Nat} {p1 p3 pos : Pos} (he : PE X e te) : PE X (.Subscript e (.Slice none none (some (.Constant (.int 2) k p1)) p3) pos)
    (fun σ H Q => te σ H fun x H1 => ∃ z, x = .str z ∧ z.length ≤ sizeLine ∧ ∀ u : Str, u.length ≤ z.length → (∀ c ∈ u.cps.toList, c ∈ z.cps.toList) → Q (.str u) H1) := by
  refine ⟨fun pins s σ H Q I h => ?_⟩
  refine Subscript_ (thn (he.run pins s σ H _ I h) fun v s1 ⟨x, H1, I1, r1, q1⟩ => ?_)
  obtain ⟨z, ex, hz, q⟩ := q1
  subst ex
  obtain ⟨t, rfl⟩ := r1
  have hst : PO X (some (.Constant (.int 2) k p1)) (tPart (tC (.int 2))) := po_some pe_int
  refine wpAny_Slice (thn (po_none.run pins s1 σ H1 (fun o H2 => o = none ∧ H2 = H1) I1 ⟨rfl, rfl⟩) fun vl s2 ⟨l, H2, I2, pl, el, e2⟩ => ?_)
  subst el e2
  refine thn (po_none.run pins s2 σ H2 (fun o H3 => o = none ∧ H3 = H2) I2 ⟨rfl, rfl⟩) fun vu s3 ⟨u, H3, I3, pu, eu, e3⟩ => ?_
  subst eu e3
  refine thn (hst.run pins s3 σ H3 (fun o H4 => o = some 2 ∧ H4 = H3) I3 ⟨2, rfl, rfl, rfl⟩) fun vs s4 ⟨o, H4, I4, ps, eo, e4⟩ => ?_
  subst eo e4
  have I5 : Inv X pins σ H4 { s4 with heap := s4.heap.push { cls := .type "slice", data := .fields #[vl, vu, vs] } } := I4.kept (t' := s4.toks) fun b ob q => Heap.get?_push_of_some _ q
  cases pl
  cases pu
  obtain ⟨tk, e⟩ : ∃ tk, vs = Value.int 2 tk := by cases ps; exact ⟨_, rfl⟩
  subst e
  refine tail_any (ops := [.ref s4.heap.objs.size, .str z t]) (typeIs_str _ _ _) PySem.F.slot_str_getitem.lookup (wpAny_getItem_str_slice (l := none) (u := none) (st := some (2, tk)) ⟨_, Heap.get?_push_size _ rfl, rfl, rfl⟩ rfl ?_) (by with_unfolding_all rfl)
  refine post_val_or_str ⟨Nat.le_trans (Txt.sliceBy_le z none none (2, tk) (by show (2 : Int) ≠ 0; decide)) hz, fun t' c => ?_⟩
  exact ⟨.str (Txt.sliceBy z none none (2, tk)), H4, I5.tok c, ⟨t', rfl⟩, q _ (Txt.sliceBy_le z none none (2, tk) (by show (2 : Int) ≠ 0; decide)) (by2 z (2, tk))⟩
theorem xe_str2 {X : Cx} {e : Expr} {F : DE} {k : Nat} {p1 p3 pos : Pos} (he : XE X e F) : XE X (.Subscript e (.Slice none none (some (.Constant (.int 2) k p1)) p3) pos) (dStr2 F) := pe_weak (pe_str2 he) fun σ H Q h => by
  obtain ⟨J, ρ, P, k, h1, h2⟩ := h
  refine ⟨J, ρ, _, k, h1, fun x hx v J1 H1 e1 r1 => ?_⟩
  split at hx
  · rename_i z ez
    exact ⟨z, r1.cur.str ez, line_le hx.1, fun u h3 h4 => h2 _ (hx.2 u h3 h4) _ J1 H1 e1 ri_str⟩
  · exact hx.elim
end Dl
set_option Elab.async false
set_option linter.all false
set_option maxRecDepth 100000
set_option maxHeartbeats 4000000
/-! The data layer: readings of loops and comprehensions. -/
namespace Dl
open PySem PySem.Spec PyProof.Rows L2

/-- a comprehension: every item gives y, or nothing -/
theorem lc_of {g : DG} {T : DT} {F : DE} {ρ : Env} {α : Type} (d : α → D) (f : α → Option D) : ∀ (l : List α) (acc : List D) (P : List D → Prop),
    (∀ x ∈ l, ∀ (Y : D → Prop) (N : Prop), (match f x with | some y => Y y | none => N) → g (.im (d x)) ρ fun ρ' => T ρ' fun b => match b with | true => F ρ' fun r => keepR r Y | false => N) →
    P (acc ++ l.filterMap f) → lcRun g T F ρ (l.map d) acc P
  | [], acc, P, _, h => by
    rw [List.filterMap_nil, List.append_nil] at h
    exact h
  | x :: l, acc, P, st, h => by
    show g (.im (d x)) ρ fun ρ' => T ρ' fun b => match b with
      | true => F ρ' fun r => keepR r fun y => lcRun g T F ρ (l.map d) (acc ++ [y]) P
      | false => lcRun g T F ρ (l.map d) acc P
    refine st x (List.mem_cons_self ..) _ _ ?_
    have ih := fun acc => lc_of d f l acc P fun y hy => st y (List.mem_cons_of_mem _ hy)
    cases e : f x with
    | some y =>
      refine ih _ ?_
      rw [List.filterMap_cons, e] at h
      simpa using h
    | none =>
      refine ih _ ?_
      rw [List.filterMap_cons, e] at h
      exact h
theorem fm_some {α β : Type} (f : α → β) : ∀ l : List α, l.filterMap (fun x => some (f x)) = l.map f
  | [] => rfl
  | x :: l => by rw [List.filterMap_cons, fm_some f l] <;> rfl
theorem fm_if {α β : Type} (p : α → Bool) (f : α → β) : ∀ l : List α, l.filterMap (fun x => if p x = true then some (f x) else none) = (l.filter p).map f
  | [] => rfl
  | x :: l => by
    rw [List.filterMap_cons, fm_if p f l, List.filter_cons]
    cases h : p x <;> simp [h]
/-- .. without a condition -/
theorem lc_map {g : DG} {F : DE} {ρ : Env} {α : Type} (d : α → D) (f : α → D) (l : List α) (P : List D → Prop)
    (st : ∀ x ∈ l, ∀ (Y : D → Prop), Y (f x) → g (.im (d x)) ρ fun ρ' => F ρ' fun r => keepR r Y) (h : P (l.map f)) : lcRun g dYes F ρ (l.map d) [] P := by
  refine lc_of d (fun x => some (f x)) l [] P (fun x hx Y N hy => st x hx Y hy) ?_
  rw [List.nil_append, fm_some]
  exact h
/-- .. with one -/
theorem lc_if {g : DG} {T : DT} {F : DE} {ρ : Env} {α : Type} (d : α → D) (p : α → Bool) (f : α → D) (l : List α) (P : List D → Prop)
    (st : ∀ x ∈ l, ∀ (Y : D → Prop) (N : Prop), (p x = true → Y (f x)) → (p x = false → N) → g (.im (d x)) ρ fun ρ' => T ρ' fun b => match b with | true => F ρ' fun r => keepR r Y | false => N) (h : P ((l.filter p).map f)) : lcRun g T F ρ (l.map d) [] P := by
  refine lc_of d (fun x => if p x = true then some (f x) else none) l [] P (fun x hx Y N hy => st x hx Y N (fun e => ?_) fun e => ?_) ?_
  · rw [e] at hy
    exact hy
  · rw [e] at hy
    exact hy
  · rw [List.nil_append, fm_if]
    exact h
/-- a loop by what holds behind its turns -/
theorem for_inv {g : DG} {T : DTS} {DD : DEnds} {α : Type} (d : α → D) (I : List α → Env → Prop) : ∀ (rest done : List α) (ρ : Env), I done ρ →
    (∀ (dn : List α) (x : α) (rs : List α), done ++ rest = dn ++ x :: rs → ∀ (ρ : Env), I dn ρ → ∀ N : Env → Prop, (∀ ρ', I (dn ++ [x]) ρ' → N ρ') → g (.im (d x)) ρ fun ρ' => T { nx := N, rt := DD.rt, bk := DD.nx, ct := N } ρ') →
    (∀ ρ, I (done ++ rest) ρ → DD.nx ρ) → forRun g T DD (rest.map d) ρ
  | [], done, ρ, h, _, hd => by
    rw [List.append_nil] at hd
    exact hd ρ h
  | x :: rest, done, ρ, h, st, hd => by
    show g (.im (d x)) ρ fun ρ' => T { nx := forRun g T DD (rest.map d), rt := DD.rt, bk := DD.nx, ct := forRun g T DD (rest.map d) } ρ'
    have e : done ++ x :: rest = (done ++ [x]) ++ rest := by simp
    refine st done x rest rfl ρ h _ fun ρ' h' => for_inv d I rest (done ++ [x]) ρ' h' (fun dn y rs e' => ?_) fun ρ' h' => ?_
    · exact st dn y rs (e.trans e')
    · exact hd ρ' (by rw [e]; exact h')
/-- .. the state a function of the turns -/
theorem for_fold {g : DG} {T : DTS} {DD : DEnds} {α S : Type} (d : α → D) (env : S → Env) (f : S → α → S) (Gd : S → Prop) (l : List α) (s : S) (hg : Gd s)
    (st : ∀ (x : α) (s : S), x ∈ l → Gd s → Gd (f s x) ∧ ∀ N : Env → Prop, N (env (f s x)) → g (.im (d x)) (env s) fun ρ' => T { nx := N, rt := DD.rt, bk := DD.nx, ct := N } ρ')
    (hd : Gd (l.foldl f s) → DD.nx (env (l.foldl f s))) : forRun g T DD (l.map d) (env s) := by
  refine for_inv d (fun dn ρ => Gd (dn.foldl f s) ∧ ρ = env (dn.foldl f s)) l [] (env s) ⟨hg, rfl⟩ (fun dn x rs e ρ h N hN => ?_) fun ρ h => ?_
  · obtain ⟨h1, rfl⟩ := h
    have e : l = dn ++ x :: rs := e
    obtain ⟨k1, k2⟩ := st x (dn.foldl f s) (by rw [e]; simp) h1
    refine k2 N (hN _ ⟨?_, ?_⟩)
    · rw [List.foldl_append]; exact k1
    · rw [List.foldl_append] <;> rfl
  · obtain ⟨h1, rfl⟩ := h
    exact hd h1
/-- .. the target's store told -/
theorem lc_map' {g : DG} {F : DE} {ρ : Env} {α : Type} (d : α → D) (f : α → D) (l : List α) (P : List D → Prop) (env : α → Env)
    (hg : ∀ x ∈ l, ∀ N : Env → Prop, N (env x) → g (.im (d x)) ρ N) (he : ∀ x ∈ l, ∀ Y : D → Prop, Y (f x) → F (env x) fun r => keepR r Y) (h : P (l.map f)) : lcRun g dYes F ρ (l.map d) [] P :=
  lc_map d f l P (fun x hx Y hY => hg x hx _ (he x hx Y hY)) h
theorem lc_if' {g : DG} {T : DT} {F : DE} {ρ : Env} {α : Type} (d : α → D) (p : α → Bool) (f : α → D) (l : List α) (P : List D → Prop) (env : α → Env)
    (hg : ∀ x ∈ l, ∀ N : Env → Prop, N (env x) → g (.im (d x)) ρ N) (ht : ∀ x ∈ l, ∀ Q : Bool → Prop, Q (p x) → T (env x) Q) (he : ∀ x ∈ l, p x = true → ∀ Y : D → Prop, Y (f x) → F (env x) fun r => keepR r Y)
    (h : P ((l.filter p).map f)) : lcRun g T F ρ (l.map d) [] P :=
  lc_if d p f l P (fun x hx Y N h1 h2 => hg x hx _ (ht x hx _ (by
    cases e : p x with
    | true => exact he x hx e Y (h1 e)
    | false => exact h2 e))) h
theorem atI_zero {α : Type} (a : α) (l : List α) : atI (a :: l) 0 = some a := by
  unfold atI ixN
  rw [if_pos (by omega), if_pos (by rw [List.length_cons]; omega)]
  rfl
theorem ixN_nat {n m : Nat} (h : m < n) : ixN n (m : Int) = some m := by
  unfold ixN
  rw [if_pos (by omega), if_pos (by omega)]
  simp
theorem signs_map (z : Str) : signs z = z.cps.toList.map fun c => D.str ⟨#[c]⟩ := rfl
theorem pairs_map {α β : Type} (d : α → D) (e : β → D) (l : List α) (m : List β) : pairsD (l.map d) (m.map e) = (l.zip m).map fun p => D.tup [d p.1, e p.2] := by
  unfold pairsD
  rw [List.zip_map, List.map_map]
  rfl
theorem enum_map {α : Type} (d : α → D) (l : List α) : enumD (l.map d) = l.zipIdx.map fun p => D.tup [.int (p.2 : Nat), d p.1] := by
  unfold enumD
  rw [List.zipIdx_map, List.map_map]
  rfl
theorem tris_map {α β γ : Type} (d : α → D) (e : β → D) (f : γ → D) (l : List α) (m : List β) (n : List γ) : trisD (l.map d) (m.map e) (n.map f) = (l.zip (m.zip n)).map fun p => D.tup [d p.1, e p.2.1, f p.2.2] := by
  unfold trisD
  rw [List.zip_map, List.zip_map, List.map_map]
  rfl
theorem atI_nat {α : Type} (l : List α) (i : Nat) : atI l (i : Int) = l[i]? := by
  unfold atI ixN
  rw [if_pos (by omega)]
  by_cases h : i < l.length
  · rw [if_pos (by omega)]
    simp
  · rw [if_neg (by omega)]
    simp [List.getElem?_eq_none (Nat.le_of_not_lt h)]
theorem atI_last {α : Type} (l : List α) : atI l (-1) = l.getLast? := by
  unfold atI ixN
  rw [if_neg (by omega)]
  cases l with
  | nil => simp
  | cons x r =>
    rw [List.getLast?_eq_getElem?, if_pos (by rw [List.length_cons]; omega)]
    have e : ((-1 : Int) + ((x :: r).length : Nat)).toNat = (x :: r).length - 1 := by rw [List.length_cons]; omega
    show (x :: r)[((-1 : Int) + ((x :: r).length : Nat)).toNat]? = _
    rw [e]
/-! ### what a reading gives -/
abbrev Gv (F : DE) (ρ : Env) (r : R) : Prop := ∀ Q : R → Prop, Q r → F ρ Q
abbrev GvT (T : DT) (ρ : Env) (b : Bool) : Prop := ∀ Q : Bool → Prop, Q b → T ρ Q
section
variable {F G : DE} {T U : DT} {ρ : Env} {a b : Bool}
theorem gv_and (h1 : Gv F ρ (.im (.bl a))) (h2 : a = true → Gv G ρ (.im (.bl b))) : Gv (dAnd F G) ρ (.im (.bl (a && b))) := fun Q q => h1 _ (by
  cases a with
  | true => exact h2 rfl Q q
  | false => exact q)
theorem gv_or (h1 : Gv F ρ (.im (.bl a))) (h2 : a = false → Gv G ρ (.im (.bl b))) : Gv (dOr F G) ρ (.im (.bl (a || b))) := fun Q q => h1 _ (by
  cases a with
  | true => exact q
  | false => exact h2 rfl Q q)
theorem gv_not (h1 : Gv F ρ (.im (.bl a))) : Gv (dNot F) ρ (.im (.bl (!a))) := fun Q q => h1 _ q
theorem gv_test (h1 : Gv F ρ (.im (.bl a))) : GvT (dTest F) ρ a := fun Q q => h1 _ q
theorem gv_andT (h1 : GvT T ρ a) (h2 : a = true → GvT U ρ b) : GvT (dAndT T U) ρ (a && b) := fun Q q => h1 _ (by
  cases a with
  | true => exact h2 rfl Q q
  | false => exact q)
theorem gv_orT (h1 : GvT T ρ a) (h2 : a = false → GvT U ρ b) : GvT (dOrT T U) ρ (a || b) := fun Q q => h1 _ (by
  cases a with
  | true => exact q
  | false => exact h2 rfl Q q)
theorem gv_notT (h1 : GvT T ρ a) : GvT (dNotT T) ρ (!a) := fun Q q => h1 _ q
/-- an if by its test -/
theorem if_of {S1 S2 : DTS} {DD : DEnds} (h1 : GvT T ρ a) (ht : a = true → S1 DD ρ) (hf : a = false → S2 DD ρ) : dIfS T S1 S2 DD ρ := h1 _ (by
  cases a with
  | true => exact ht rfl
  | false => exact hf rfl)
theorem ife_of {P : R → Prop} (h1 : GvT T ρ a) (ht : a = true → F ρ P) (hf : a = false → G ρ P) : dIf T F G ρ P := h1 _ (by
  cases a with
  | true => exact ht rfl
  | false => exact hf rfl)
theorem gv_ixL (r : R) {ds : List D} {i : Int} {d : D} (h1 : Gv F ρ r) (hr : r.d = .lst ds) (h2 : Gv G ρ (.im (.int i))) (h : atI ds i = some d) : Gv (dOp oIx F G) ρ (.im d) := fun Q q => h1 _ (h2 _ (by
  show oIx r (.im (.int i)) Q
  unfold oIx
  rw [hr]
  show match atI ds i with | some d => Q (.im d) | none => False
  rw [h]
  exact q))
theorem gv_ixS (r : R) {z : Str} {i : Int} {c : Nat} (h1 : Gv F ρ r) (hr : r.d = .str z) (h2 : Gv G ρ (.im (.int i))) (hz : z.length ≤ 100000) (h : atI z.cps.toList i = some c) : Gv (dOp oIx F G) ρ (.im (.str ⟨#[c]⟩)) := fun Q q => h1 _ (h2 _ (by
  show oIx r (.im (.int i)) Q
  unfold oIx
  rw [hr]
  show match atI z.cps.toList i with | some c => z.length ≤ 100000 ∧ Q (.im (.str ⟨#[c]⟩)) | none => False
  rw [h]
  exact ⟨hz, q⟩))
theorem asg_of {g : DG} {DD : DEnds} (r : R) (h : Gv F ρ r) (k : g r ρ DD.nx) : dAsg F g DD ρ := h _ k
theorem ret_im {DD : DEnds} {d : D} (h : Gv F ρ (.im d)) (k : DD.rt d) : dRet F DD ρ := h _ k
theorem ret_nw {DD : DEnds} {d : D} (h : Gv F ρ (.nw d)) (k : DD.rt d) : dRet F DD ρ := h _ k
variable {U : DTS} {DD : DEnds} {d : D} {i : Nat} {S1 S2 : DTS}
theorem seq_set (h : Gv F ρ (.im d)) (k : U DD (ρ.set i (some (.im d)))) : dSeq (dAsg F (dSt false i)) U DD ρ := h _ k
theorem seq_setN (h : Gv F ρ (.nw d)) (k : U DD (ρ.set i (some (.im d)))) : dSeq (dAsg F (dSt false i)) U DD ρ := h _ k
theorem seq_mu (h : Gv F ρ (.nw d)) (k : U DD (ρ.set i (some (.mu d)))) : dSeq (dAsg F (dSt true i)) U DD ρ := h _ k
theorem seq_guard (h1 : GvT T ρ a) (e : a = false) (k : U DD ρ) : dSeq (dIfS T S1 dNext) U DD ρ := h1 _ (by
  subst e
  exact k)
theorem seq_if (h1 : GvT T ρ a) (ht : a = true → S1 { DD with nx := U DD } ρ) (hf : a = false → S2 { DD with nx := U DD } ρ) : dSeq (dIfS T S1 S2) U DD ρ := h1 _ (by
  cases a with
  | true => exact ht rfl
  | false => exact hf rfl)
theorem seq_for {I : DI} {g : DG} (h : I ρ fun ds => forRun g S1 { DD with nx := U DD } ds ρ) : dSeq (dFor I g S1) U DD ρ := h
theorem seq_app {ds : List D} {x : D} (hi : ρ[i]? = some (some (.mu (.lst ds)))) (h : Gv F ρ (.im x) ∨ Gv F ρ (.nw x)) (hl : ds.length ≤ 100000) (k : U DD (ρ.set i (some (.mu (.lst (ds ++ [x])))))) : dSeq (dApp i F) U DD ρ := by
  show dApp i F { DD with nx := U DD } ρ
  unfold dApp
  rw [hi]
  rcases h with h | h
  · exact h _ ⟨hl, k⟩
  · exact h _ ⟨hl, k⟩
theorem app_of {ds : List D} {x : D} (hi : ρ[i]? = some (some (.mu (.lst ds)))) (h : Gv F ρ (.im x) ∨ Gv F ρ (.nw x)) (hl : ds.length ≤ 100000) (k : DD.nx (ρ.set i (some (.mu (.lst (ds ++ [x])))))) : dApp i F DD ρ := by
  unfold dApp
  rw [hi]
  rcases h with h | h
  · exact h _ ⟨hl, k⟩
  · exact h _ ⟨hl, k⟩
end
abbrev GvA (A : DA) (ρ : Env) (rs : List R) : Prop := ∀ Q : List R → Prop, Q rs → A ρ Q
theorem map_im (ds : List D) : (ds.map R.im).map R.d = ds := by
  rw [List.map_map]
  exact List.map_id' _
theorem all_im (ds : List D) : allIm (ds.map R.im) = true := by
  unfold allIm
  rw [List.all_map]
  exact List.all_eq_true.mpr fun _ _ => rfl
section
variable {F G : DE} {A : DA} {ρ : Env} {r s t : R} {rs : List R} {ds : List D} {d : D} {n : Nat} {f : DF}
theorem gva_nil : GvA dNil ρ [] := fun Q q => q
theorem gva_cons (h1 : Gv F ρ r) (h2 : GvA A ρ rs) : GvA (dCons F A) ρ (r :: rs) := fun Q q => h1 _ (h2 _ q)
theorem gva_fz (h1 : Gv F ρ (.nw d)) (h2 : GvA A ρ rs) : GvA (dCons (dFz F) A) ρ (.im d :: rs) := fun Q q => h1 _ (h2 _ q)
theorem gv_call (ds : List D) (ha : GvA A ρ (ds.map R.im)) (hn : ds.length = n) (hf : ∀ P : D → Prop, P d → f ds P) : Gv (dCall n f A) ρ (.im d) := fun Q q => ha _ ⟨all_im ds, by rw [List.length_map]; exact hn, by rw [map_im]; exact hf _ q⟩
theorem gv_op {g : RD2} (r s : R) (h1 : Gv F ρ r) (h2 : Gv G ρ s) (h3 : ∀ Q : R → Prop, Q t → g r s Q) : Gv (dOp g F G) ρ t := fun Q q => h1 _ (h2 _ (h3 Q q))
theorem gv_tup (ds : List D) (ha : GvA A ρ (ds.map R.im)) (hl : ds.length ≤ 100000) : Gv (dTup A) ρ (.im (.tup ds)) := fun Q q => ha _ ⟨all_im ds, by rw [List.length_map]; exact line_le hl, by rw [map_im]; exact q⟩
theorem gv_lst (ds : List D) (ha : GvA A ρ (ds.map R.im)) (hl : ds.length ≤ 100000) : Gv (dLst A) ρ (.nw (.lst ds)) := fun Q q => ha _ ⟨all_im ds, by rw [List.length_map]; exact line_le hl, by rw [map_im]; exact q⟩
theorem seq_asgG {g : DG} {U : DTS} {DD : DEnds} {ρ2 : Env} (r : R) (h : Gv F ρ r) (hg : ∀ N : Env → Prop, N ρ2 → g r ρ N) (k : U DD ρ2) : dSeq (dAsg F g) U DD ρ := h _ (hg _ k)
theorem setL_of {i : Nat} {DD : DEnds} {ds : List D} {k : Int} {m : Nat} (hi : ρ[i]? = some (some (.mu (.lst ds)))) (hF : Gv F ρ (.im d)) (hG : Gv G ρ (.im (.int k))) (hk : ixN ds.length k = some m) (q : DD.nx (ρ.set i (some (.mu (.lst (ds.set m d)))))) : dSetL i F G DD ρ := hF _ (by
  show match ρ[i]? with
    | some (some (.mu (.lst ds))) => G ρ fun x => (match x.d with
      | .int k => (match ixN ds.length k with
        | some n => DD.nx (ρ.set i (some (.mu (.lst (ds.set n d)))))
        | none => False)
      | _ => False)
    | _ => False
  rw [hi]
  refine hG _ ?_
  show match ixN ds.length k with
    | some n => DD.nx (ρ.set i (some (.mu (.lst (ds.set n d)))))
    | none => False
  rw [hk]
  exact q)
theorem gv_min2 {i j : Int} (h1 : Gv F ρ (.im (.int i))) (h2 : Gv G ρ (.im (.int j))) : Gv (dCB (call2 fMin2) (dCons F (dCons G dNil))) ρ (.im (.int (min i j))) := fun Q q => h1 _ (h2 _ (by
  have e : (if j < i then j else i) = min i j := by split <;> omega
  show Q (.im (.int (if j < i then j else i)))
  rw [e]
  exact q))
theorem gv_add {i j : Int} (h1 : Gv F ρ (.im (.int i))) (h2 : Gv G ρ (.im (.int j))) : Gv (dOp oAdd F G) ρ (.im (.int (i + j))) := fun Q q => h1 _ (h2 _ q)
theorem gv_sub {i j : Int} (h1 : Gv F ρ (.im (.int i))) (h2 : Gv G ρ (.im (.int j))) : Gv (dOp oSub F G) ρ (.im (.int (i - j))) := fun Q q => h1 _ (h2 _ q)
theorem frz_of {i : Nat} {T : DTS} {DD : DEnds} (hi : ρ[i]? = some (some (.mu d))) (k : T DD (ρ.set i (some (.im d)))) : dFrz i T DD ρ := by
  unfold dFrz
  rw [hi]
  exact k
theorem app_all {i : Nat} {DD : DEnds} {ds : List D} (hi : ρ[i]? = some (some (.mu (.lst ds)))) (h : F ρ fun r => keepR r fun d => ds.length ≤ 100000 ∧ DD.nx (ρ.set i (some (.mu (.lst (ds ++ [d])))))) : dApp i F DD ρ := by
  unfold dApp
  rw [hi]
  exact h
theorem seq_appA {i : Nat} {U : DTS} {DD : DEnds} {ds : List D} (hi : ρ[i]? = some (some (.mu (.lst ds)))) (h : F ρ fun r => keepR r fun d => ds.length ≤ 100000 ∧ U DD (ρ.set i (some (.mu (.lst (ds ++ [d])))))) : dSeq (dApp i F) U DD ρ := by
  show dApp i F { DD with nx := U DD } ρ
  unfold dApp
  rw [hi]
  exact h
theorem call_all {Q : R → Prop} (ds : List D) (ha : GvA A ρ (ds.map R.im)) (hn : ds.length = n) (hf : f ds fun d => Q (.im d)) : dCall n f A ρ Q := ha _ ⟨all_im ds, by rw [List.length_map]; exact hn, by rw [map_im]; exact hf⟩
theorem aug_sub {i : Nat} {DD : DEnds} {v k u : Int} (hi : ρ[i]? = some (some (.im (.int v)))) (hF : Gv F ρ (.im (.int k))) (e : v - k = u) (q : DD.nx (ρ.set i (some (.im (.int u))))) : dAug i oSub F DD ρ := by
  unfold dAug
  rw [hi]
  refine hF _ ?_
  show DD.nx (ρ.set i (some (.im (.int (v - k)))))
  rw [e]
  exact q
theorem aug_add {i : Nat} {DD : DEnds} {v k u : Int} (hi : ρ[i]? = some (some (.im (.int v)))) (hF : Gv F ρ (.im (.int k))) (e : v + k = u) (q : DD.nx (ρ.set i (some (.im (.int u))))) : dAug i oAdd F DD ρ := by
  unfold dAug
  rw [hi]
  refine hF _ ?_
  show DD.nx (ρ.set i (some (.im (.int (v + k)))))
  rw [e]
  exact q
theorem gv_len (r : R) (n : Nat) (h1 : Gv F ρ r) (h2 : ∀ Q : R → Prop, Q (.im (.int n)) → fLen r Q) : Gv (dCB (call1 fLen) (dCons F dNil)) ρ (.im (.int n)) := fun Q q => h1 _ (h2 Q q)
end
/-- a loop by what holds behind its turns, the target's store told -/
theorem for_inv' {g : DG} {T : DTS} {DD : DEnds} {α : Type} (d : α → D) (I : List α → Env → Prop) (l : List α) (ρ : Env) (h0 : I [] ρ)
    (st : ∀ (dn : List α) (x : α) (rs : List α), l = dn ++ x :: rs → ∀ (ρ : Env), I dn ρ → ∃ ρ2, (∀ N : Env → Prop, N ρ2 → g (.im (d x)) ρ N) ∧ ∀ N : Env → Prop, (∀ ρ', I (dn ++ [x]) ρ' → N ρ') → T { nx := N, rt := DD.rt, bk := DD.nx, ct := N } ρ2)
    (hd : ∀ ρ, I l ρ → DD.nx ρ) : forRun g T DD (l.map d) ρ :=
  for_inv d I l [] ρ h0 (fun dn x rs e ρ hI N hN => by
    obtain ⟨ρ2, h1, h2⟩ := st dn x rs e ρ hI
    exact h1 _ (h2 N hN)) hd
end Dl
set_option Elab.async false
set_option linter.all false
set_option maxRecDepth 100000
set_option maxHeartbeats 4000000
/-! What the defs of k02 compute, in plain Lean. -/
namespace M
open PySem PySem.Spec PyProof.Rows L2 Dl
abbrev Rdr := List (Str × Str)
def L1 (c : Nat) : Str := ⟨#[c]⟩
def ksR (r : Rdr) : List Key := r.map fun p => Sum.inr p.1
def dsR (r : Rdr) : List D := r.map fun p => D.str p.2
def rD (r : Rdr) : D := .dK (ksR r) (dsR r)
def sD (l : List Str) : D := .lst (l.map D.str)
def iD (l : List Int) : D := .lst (l.map D.int)
def iiD (l : List (List Int)) : D := .lst (l.map iD)
def optD : Option Int → D
  | none => .non
  | some i => .int i
def oD (l : List (Option Int)) : D := .lst (l.map optD)
/-! ### rows -/
def rowsL : Nat → List (List Nat)
  | 0 => [[]]
  | n + 1 => (rowsL n).map (46 :: ·) ++ (rowsL n).map (111 :: ·)
def rowsS (w : Nat) : List Str := (rowsL w).map fun l => ⟨l.toArray⟩
def isRow (z : Str) (n : Int) : Bool := decide ((z.length : Int) = n) && z.cps.toList.all fun c => L1 c == "o" || L1 c == "."
def goes (a b : Str) : Bool := !((a.cps.toList.zip b.cps.toList).any fun p => L1 p.1 == "o" && L1 p.2 == ".")
def cost (a b : Str) : Int := (Txt.count b "o" : Int) - (Txt.count a "o" : Int)
def abv (row : Str) : List Str := (rowsS row.length).filter (goes row)
def mean (r : Rdr) (row : Str) : Str := ((r.find? fun p => decide (p.1 = row)).map (·.2)).getD ""
def reads (r : Rdr) (tape : List Str) : Str := Txt.join "" (tape.map (mean r))
def cheap (r : Rdr) (row l : Str) : Option Int := leastOf (((abv row).filter fun o => mean r o == l).map (cost row))
def takn (a b : List Str) : Int := ((a.zip b).map fun p => cost p.1 p.2).sum
def ovr (a b : List Str) : Bool := a.length == b.length && (a.zip b).all fun p => goes p.1 p.2
def hld (least ahead : Int) (c : Option Int) : Bool := match c with
  | none => true
  | some c => decide (least ≤ ahead + c)
/-! ### data as told -/
theorem get_rD (r : Rdr) (row : Str) : getDs (ksR r) (dsR r) (Sum.inr row) = (r.find? fun p => decide (p.1 = row)).map fun p => D.str p.2 := by
  unfold getDs ksR dsR
  rw [List.zip_map', List.find?_map]
  have e : ((fun p : Key × D => decide (p.1 = Sum.inr row)) ∘ fun p : Str × Str => ((Sum.inr p.1 : Key), D.str p.2)) = fun p => decide (p.1 = row) := by
    funext p
    simp
  rw [e, Option.map_map]
  rfl
theorem leastD_opt (ns : List Int) : leastD ns .non = optD (leastOf ns) := by
  cases ns <;> rfl
theorem intsD_iD (l : List Int) : intsD (l.map D.int) = some l := by
  have := intsD_map (fun x : Int => x) l
  rwa [List.map_id'] at this
theorem strsD_sD (l : List Str) : strsD (l.map D.str) = some l := by
  have := strsD_map (fun x : Str => x) l
  rwa [List.map_id'] at this
theorem blsD_bD (l : List Bool) : blsD (l.map D.bl) = some l := by
  have := blsD_map (fun x : Bool => x) l
  rwa [List.map_id'] at this
/-! ### what is handed in -/
def letters : List Nat := (List.range 26).map (· + 97)
structure Good (r : Rdr) (w : Nat) : Prop where
  w1 : 1 ≤ w
  w4 : w ≤ 4
  ne : r ≠ []
  nd : (r.map (·.1)).Nodup
  rows : ∀ p ∈ r, p.1 ∈ rowsS w ∧ 46 ∈ p.1.cps.toList
  lets : ∀ p ∈ r, ∃ c, p.2 = L1 c ∧ c ∈ letters
def TapeIn (w : Nat) (tape : List Str) : Prop := (∀ row ∈ tape, row ∈ rowsS w) ∧ tape.length ≤ 30
def TextIn (z : Str) : Prop := (∀ c ∈ z.cps.toList, c ∈ letters) ∧ z.length ≤ 30
theorem lets_eq : (("abcdefghijklmnopqrstuvwxyz" : Str)).cps.toList = letters := by decide +kernel
theorem rows_isRow : ∀ w, w < 5 → ∀ row ∈ rowsS w, isRow row w = true ∧ row.length = w := by decide +kernel
theorem mean_of {r : Rdr} {w : Nat} (h : Good r w) (row : Str) : mean r row = "" ∨ ∃ c, mean r row = L1 c ∧ c ∈ letters := by
  unfold mean
  cases e : r.find? fun p => decide (p.1 = row) with
  | none => exact .inl rfl
  | some p => exact .inr (h.lets p (List.mem_of_find?_eq_some e))
theorem mean_len {r : Rdr} {w : Nat} (h : Good r w) (row : Str) : (mean r row).length ≤ 1 := by
  rcases mean_of h row with e | ⟨c, e, _⟩
  · rw [e]; decide
  · rw [e]; exact Nat.le_refl 1
/-! ### sorted texts -/
theorem rising_pw : ∀ (l : List Str) (p : Str), risingS p l = true → (p :: l).Pairwise (fun a b : Str => a.cps.toList ≤ b.cps.toList)
  | [], p, _ => List.pairwise_singleton _ _
  | x :: r, p, h => by
    have h : (!ltCps x.cps.toList p.cps.toList && risingS x r) = true := h
    rw [Bool.and_eq_true, ltCps_eq] at h
    have h1 : p.cps.toList ≤ x.cps.toList := by
      have := h.1
      simp only [Bool.not_eq_true', decide_eq_false_iff_not] at this
      exact List.not_lt.mp this
    have ih := rising_pw r x h.2
    rw [List.pairwise_cons] at ih ⊢
    refine ⟨fun y hy => ?_, List.pairwise_cons.mpr ih⟩
    rcases List.mem_cons.mp hy with e | e
    · rw [e]; exact h1
    · exact List.le_trans h1 (ih.1 y e)
theorem sorted_pw {l : List Str} (h : sortedS l = true) : l.Pairwise (fun a b : Str => a.cps.toList ≤ b.cps.toList) := by
  cases l with
  | nil => exact List.Pairwise.nil
  | cons x r => exact rising_pw r x h
theorem str_ext {a b : Str} (h : a.cps.toList = b.cps.toList) : a = b := by
  cases a
  cases b
  congr 1
  exact Array.toList_inj.mp h
theorem sorted_unique {ys xs : List Str} (hp : ys.Perm xs) (hs : sortedS ys = true) (hx : sortedS xs = true) : ys = xs :=
  List.Perm.eq_of_pairwise (fun a b _ _ h1 h2 => str_ext (List.le_antisymm h1 h2)) (sorted_pw hs) (sorted_pw hx) hp
/-! ### loops -/
def dbl (l : List Str) : List Str := l.map (· ++ (".":Str)) ++ l.map (· ++ ("o":Str))
def dblN : Nat → List Str
  | 0 => [""]
  | n + 1 => dbl (dblN n)
theorem dbl_rows : ∀ w, w < 5 → (dblN w).Perm (rowsS w) ∧ sortedS (rowsS w) = true ∧ (dblN w).length < 64 := by
  decide +kernel
end M
set_option Elab.async false
set_option linter.all false
set_option maxRecDepth 100000
/-! The readings, printed by gen02.py. -/
namespace W02
open PySem PySem.Spec PyProof.Rows L2 Dl
abbrev k_HOLE : Str := "o"
abbrev k_BLANK : Str := "."
abbrev k_LETTERS : Str := "abcdefghijklmnopqrstuvwxyz"
abbrev k_WIDEST : Int := 4
abbrev k_MOST : Int := 30
abbrev k_FAR : Int := 1000
abbrev n_is_row : List Str := ["thing", "width", "sign"]
def t_is_row : DTS := (dRet (dAnd (dCB (call2 fIsi) (dCons (dVar 0) (dCons (dC (.ty "str")) dNil))) (dAnd (dOp oEq (dCB (call1 fLen) (dCons (dVar 0) dNil)) (dVar 1)) (dCB (call1 fAll) (dCons (dLc (dIS (dVar 0)) (dSt false 2) dYes (dOp (oIn false) (dVar 2) (dTup (dCons (dC (.str k_HOLE)) (dCons (dC (.str k_BLANK)) dNil)))) [2]) dNil)))))
abbrev n_is_letter : List Str := ["thing"]
def t_is_letter : DTS := (dRet (dAnd (dCB (call2 fIsi) (dCons (dVar 0) (dCons (dC (.ty "str")) dNil))) (dAnd (dOp oEq (dCB (call1 fLen) (dCons (dVar 0) dNil)) (dC (.int 1))) (dOp (oInS false) (dVar 0) (dC (.str k_LETTERS))))))
abbrev n_width_of : List Str := ["reader", "first", "width", "row", "letter"]
def t_width_of (f_is_row : DF) (f_is_letter : DF) : DTS := (dSeq (dIfS (dOrT (dNotT (dTest (dCB (call2 fIsi) (dCons (dVar 0) (dCons (dC (.ty "dict")) dNil))))) (dTest (dOp oEqE (dVar 0) dNewK))) dNever dNext)
  (dSeq (dAsg (dOp oIx (dCB (call1 fList) (dCons (dVar 0) dNil)) (dC (.int 0))) (dSt false 1))
  (dSeq (dAsg (dIf (dTest (dCB (call2 fIsi) (dCons (dVar 1) (dCons (dC (.ty "str")) dNil)))) (dCB (call1 fLen) (dCons (dVar 1) dNil)) (dC (.int 0))) (dSt false 2))
  (dSeq (dItems 0 (dGTup (dGCons (dSt false 3) (dGCons (dSt false 4) dGNil))) (dIfS (dOrT (dNotT (dTest (dChain oLe oLe (dC (.int 1)) (dVar 2) (dC (.int k_WIDEST))))) (dOrT (dNotT (dTest (dCall 2 f_is_row (dCons (dVar 3) (dCons (dVar 2) dNil))))) (dOrT (dTest (dOp (oInS true) (dC (.str k_BLANK)) (dVar 3))) (dNotT (dTest (dCall 1 f_is_letter (dCons (dVar 4) dNil))))))) dNever dNext))
  (dRet (dVar 2))))))
abbrev n_check_tape : List Str := ["width", "tape", "place", "row"]
def t_check_tape (f_is_row : DF) : DTS := (dSeq (dIfS (dNotT (dTest (dCB (call2 fIsi) (dCons (dVar 1) (dCons (dC (.ty "list")) dNil))))) dNever dNext)
  (dFor (dIE (dVar 1)) (dGTup (dGCons (dSt false 2) (dGCons (dSt false 3) dGNil))) (dIfS (dOrT (dTest (dOp oEq (dVar 2) (dC (.int k_MOST)))) (dNotT (dTest (dCall 2 f_is_row (dCons (dVar 3) (dCons (dVar 0) dNil)))))) dNever dNext)))
abbrev n_check_text : List Str := ["text", "place", "sign"]
def t_check_text : DTS := (dSeq (dIfS (dNotT (dTest (dCB (call2 fIsi) (dCons (dVar 0) (dCons (dC (.ty "str")) dNil))))) dNever dNext)
  (dFor (dIES (dVar 0)) (dGTup (dGCons (dSt false 1) (dGCons (dSt false 2) dGNil))) (dIfS (dOrT (dTest (dOp oEq (dVar 1) (dC (.int k_MOST)))) (dTest (dOp (oInS true) (dVar 2) (dC (.str k_LETTERS))))) dNever dNext)))
abbrev n_goes_over : List Str := ["row", "other", "one", "new"]
def t_goes_over : DTS := (dRet (dNot (dCB (call1 fAny) (dCons (dLc (dIZS (dVar 0) (dVar 1)) (dGTup (dGCons (dSt false 2) (dGCons (dSt false 3) dGNil))) dYes (dAnd (dOp oEq (dVar 2) (dC (.str k_HOLE))) (dOp oEq (dVar 3) (dC (.str k_BLANK)))) [2, 3]) dNil))))
abbrev n_cost_of : List Str := ["row", "other"]
def t_cost_of : DTS := (dRet (dOp oSub (dStrM fCount (dVar 1) (dC (.str k_HOLE))) (dStrM fCount (dVar 0) (dC (.str k_HOLE)))))
abbrev n_rows_of : List Str := ["width", "found", "turn", "row"]
def t_rows_of : DTS := (dSeq (dAsg (dLst (dCons (dC (.str "")) dNil)) (dSt false 1))
  (dSeq (dFor (dIR1 (dVar 0)) (dSt false 2) (dAsg (dOp oCat (dLc (dIL (dVar 1)) (dSt false 3) dYes (dOp oCatS (dVar 3) (dC (.str k_BLANK))) [3]) (dLc (dIL (dVar 1)) (dSt false 3) dYes (dOp oCatS (dVar 3) (dC (.str k_HOLE))) [3])) (dSt false 1)))
  (dRet (dCB (call1 fSortS) (dCons (dVar 1) dNil)))))
abbrev n_above : List Str := ["row", "other"]
def t_above (f_rows_of : DF) (f_goes_over : DF) : DTS := (dRet (dLc (dIL (dCall 1 f_rows_of (dCons (dCB (call1 fLen) (dCons (dVar 0) dNil)) dNil))) (dSt false 1) (dTest (dCall 2 f_goes_over (dCons (dVar 0) (dCons (dVar 1) dNil)))) (dVar 1) [1]))
abbrev n_meaning : List Str := ["reader", "row"]
def t_meaning : DTS := (dRet (dGet2 (dVar 0) (dVar 1) (dC (.str ""))))
abbrev n_text_of : List Str := ["reader", "tape", "row"]
def t_text_of (f_meaning : DF) : DTS := (dRet (dStrM fJoin (dC (.str "")) (dLc (dIL (dVar 1)) (dSt false 2) dYes (dCall 2 f_meaning (dCons (dVar 0) (dCons (dVar 2) dNil))) [2])))
abbrev n_over : List Str := ["tape", "other", "one", "new"]
def t_over (f_goes_over : DF) : DTS := (dRet (dAnd (dOp oEq (dCB (call1 fLen) (dCons (dVar 0) dNil)) (dCB (call1 fLen) (dCons (dVar 1) dNil))) (dCB (call1 fAll) (dCons (dLc (dIZ (dVar 0) (dVar 1)) (dGTup (dGCons (dSt false 2) (dGCons (dSt false 3) dGNil))) dYes (dCall 2 f_goes_over (dCons (dVar 2) (dCons (dVar 3) dNil))) [2, 3]) dNil))))
abbrev n_taken : List Str := ["tape", "other", "one", "new"]
def t_taken (f_cost_of : DF) : DTS := (dRet (dCB (call1 fSum) (dCons (dLc (dIZ (dVar 0) (dVar 1)) (dGTup (dGCons (dSt false 2) (dGCons (dSt false 3) dGNil))) dYes (dCall 2 f_cost_of (dCons (dVar 2) (dCons (dVar 3) dNil))) [2, 3]) dNil)))
abbrev n_cheapest : List Str := ["reader", "row", "letter", "costs", "other"]
def t_cheapest (f_above : DF) (f_meaning : DF) (f_cost_of : DF) : DTS := (dSeq (dAsg (dLc (dIL (dCall 1 f_above (dCons (dVar 1) dNil))) (dSt false 4) (dTest (dOp oEq (dCall 2 f_meaning (dCons (dVar 0) (dCons (dVar 4) dNil))) (dVar 2))) (dCall 2 f_cost_of (dCons (dVar 1) (dCons (dVar 4) dNil))) [4]) (dSt false 3))
  (dRet (dOp fMinD (dVar 3) (dC .non))))
abbrev n_are_tape : List Str := ["reader", "tape", "width", "row"]
def t_are_tape (f_width_of : DF) (f_is_row : DF) : DTS := (dSeq (dAsg (dCall 1 f_width_of (dCons (dVar 0) dNil)) (dSt false 2))
  (dRet (dCB (call1 fAll) (dCons (dLc (dIL (dVar 1)) (dSt false 3) dYes (dCall 2 f_is_row (dCons (dVar 3) (dCons (dVar 2) dNil))) [3]) dNil))))
abbrev n_holds : List Str := ["least", "ahead", "cost"]
def t_holds : DTS := (dRet (dOr (dOp oIsN (dVar 2) (dC .non)) (dOp oLe (dVar 0) (dOp oAdd (dVar 1) (dVar 2)))))
abbrev n_Written_shows : List Str := ["self", "reader", "tape", "text", "high", "at", "row", "many"]
def t_Written_shows (K : PySem.W.Frag) (f_are_tape : DF) (f_over : DF) (f_text_of : DF) (f_holds : DF) (f_cheapest : DF) (f_taken : DF) : DTS := (dSeq (dAsg (dFld K "heights" (dVar 0)) (dSt false 4))
  (dSeq (dIfS (dOrT (dNotT (dTest (dCall 2 f_are_tape (dCons (dVar 1) (dCons (dFld K "tape" (dVar 0)) dNil))))) (dOrT (dNotT (dTest (dCall 2 f_over (dCons (dVar 2) (dCons (dFld K "tape" (dVar 0)) dNil))))) (dTest (dOp oNe (dCall 2 f_text_of (dCons (dVar 1) (dCons (dFld K "tape" (dVar 0)) dNil))) (dVar 3))))) (dRet (dC (.bl false))) dNext)
  (dSeq (dIfS (dOrT (dTest (dOp oNe (dCB (call1 fLen) (dCons (dVar 4) dNil)) (dOp oAdd (dCB (call1 fLen) (dCons (dVar 2) dNil)) (dC (.int 1))))) (dOrT (dTest (dCB (call1 fAny) (dCons (dLc (dIL (dVar 4)) (dSt false 6) dYes (dOp oNe (dCB (call1 fLen) (dCons (dVar 6) dNil)) (dOp oAdd (dCB (call1 fLen) (dCons (dVar 3) dNil)) (dC (.int 1)))) [6]) dNil))) (dTest (dOp oNe (dOp oIx (dOp oIx (dVar 4) (dC (.int 0))) (dC (.int 0))) (dC (.int 0)))))) (dRet (dC (.bl false))) dNext)
  (dSeq (dFor (dIE (dVar 2)) (dGTup (dGCons (dSt false 5) (dGCons (dSt false 6) dGNil))) (dFor (dIR1 (dOp oAdd (dCB (call1 fLen) (dCons (dVar 3) dNil)) (dC (.int 1)))) (dSt false 7) (dSeq (dIfS (dNotT (dTest (dCall 3 f_holds (dCons (dOp oIx (dOp oIx (dVar 4) (dOp oAdd (dVar 5) (dC (.int 1)))) (dVar 7)) (dCons (dOp oIx (dOp oIx (dVar 4) (dVar 5)) (dVar 7)) (dCons (dCall 3 f_cheapest (dCons (dVar 1) (dCons (dVar 6) (dCons (dC (.str "")) dNil)))) dNil)))))) (dRet (dC (.bl false))) dNext)
  (dIfS (dTest (dOp oLt (dVar 7) (dCB (call1 fLen) (dCons (dVar 3) dNil)))) (dIfS (dNotT (dTest (dCall 3 f_holds (dCons (dOp oIx (dOp oIx (dVar 4) (dOp oAdd (dVar 5) (dC (.int 1)))) (dOp oAdd (dVar 7) (dC (.int 1)))) (dCons (dOp oIx (dOp oIx (dVar 4) (dVar 5)) (dVar 7)) (dCons (dCall 3 f_cheapest (dCons (dVar 1) (dCons (dVar 6) (dCons (dOp oIx (dVar 3) (dVar 7)) dNil)))) dNil)))))) (dRet (dC (.bl false))) dNext) dNext))))
  (dRet (dOp oEq (dOp oIx (dOp oIx (dVar 4) (dUn oNeg (dC (.int 1)))) (dUn oNeg (dC (.int 1)))) (dCall 2 f_taken (dCons (dVar 2) (dCons (dFld K "tape" (dVar 0)) dNil)))))))))
abbrev n_Barred_shows : List Str := ["self", "reader", "tape", "text", "marks", "row", "one", "other"]
def t_Barred_shows (K : PySem.W.Frag) (f_cheapest : DF) : DTS := (dSeq (dAsg (dFld K "marks" (dVar 0)) (dSt false 4))
  (dSeq (dIfS (dOrT (dTest (dOp oNe (dCB (call1 fLen) (dCons (dVar 4) dNil)) (dOp oAdd (dCB (call1 fLen) (dCons (dVar 2) dNil)) (dC (.int 1))))) (dOrT (dTest (dOp oNe (dOp oIx (dVar 4) (dC (.int 0))) (dC (.int 0)))) (dTest (dOp oGe (dOp oIx (dVar 4) (dUn oNeg (dC (.int 1)))) (dCB (call1 fLen) (dCons (dVar 3) dNil)))))) (dRet (dC (.bl false))) dNext)
  (dSeq (dFor (dIZ3 (dVar 2) (dVar 4) (dFz (dSl (dVar 4) (dPart (dC (.int 1))) dNoPart))) (dGTup (dGCons (dSt false 5) (dGCons (dSt false 6) (dGCons (dSt false 7) dGNil)))) (dSeq (dIfS (dTest (dOp oLt (dVar 7) (dVar 6))) (dRet (dC (.bl false))) dNext)
  (dIfS (dAndT (dTest (dOp oLt (dVar 6) (dCB (call1 fLen) (dCons (dVar 3) dNil)))) (dAndT (dTest (dOp oEq (dVar 7) (dVar 6))) (dTest (dOp oNotN (dCall 3 f_cheapest (dCons (dVar 1) (dCons (dVar 5) (dCons (dOp oIx (dVar 3) (dVar 6)) dNil)))) (dC .non))))) (dRet (dC (.bl false))) dNext)))
  (dRet (dC (.bl true))))))
abbrev n_marks_of : List Str := ["reader", "tape", "text", "found", "row", "many", "more"]
def t_marks_of (f_cheapest : DF) : DTS := (dSeq (dAsg (dLst (dCons (dC (.int 0)) dNil)) (dSt true 3))
  (dSeq (dFor (dIL (dVar 1)) (dSt false 4) (dSeq (dAsg (dOp oIx (dVar 3) (dUn oNeg (dC (.int 1)))) (dSt false 5))
  (dSeq (dAsg (dAnd (dOp oLt (dVar 5) (dCB (call1 fLen) (dCons (dVar 2) dNil))) (dOp oNotN (dCall 3 f_cheapest (dCons (dVar 0) (dCons (dVar 4) (dCons (dOp oIx (dVar 2) (dVar 5)) dNil)))) (dC .non))) (dSt false 6))
  (dApp 3 (dIf (dTest (dVar 6)) (dOp oAdd (dVar 5) (dC (.int 1))) (dVar 5))))))
  (dFrz 3 (dRet (dVar 3)))))
abbrev n_heights_of : List Str := ["reader", "tape", "text", "found", "row", "last", "rub", "line", "many", "letter", "cost", "high"]
def t_heights_of (f_cheapest : DF) : DTS := (dSeq (dAsg (dLst (dCons (dFz (dOp oCat (dLst (dCons (dC (.int 0)) dNil)) (dOp oRep (dLst (dCons (dC (.int k_FAR)) dNil)) (dCB (call1 fLen) (dCons (dVar 2) dNil))))) dNil)) (dSt true 3))
  (dSeq (dFor (dIL (dVar 1)) (dSt false 4) (dSeq (dAsg (dTup (dCons (dOp oIx (dVar 3) (dUn oNeg (dC (.int 1)))) (dCons (dCall 3 f_cheapest (dCons (dVar 0) (dCons (dVar 4) (dCons (dC (.str "")) dNil)))) dNil))) (dGTup (dGCons (dSt false 5) (dGCons (dSt false 6) dGNil))))
  (dSeq (dAsg (dLc (dIL (dVar 5)) (dSt false 11) dYes (dOp oAdd (dVar 11) (dVar 6)) [11]) (dSt true 7))
  (dSeq (dFor (dIES (dVar 2)) (dGTup (dGCons (dSt false 8) (dGCons (dSt false 9) dGNil))) (dSeq (dAsg (dCall 3 f_cheapest (dCons (dVar 0) (dCons (dVar 4) (dCons (dVar 9) dNil)))) (dSt false 10))
  (dIfS (dTest (dOp oNotN (dVar 10) (dC .non))) (dSetL 7 (dCB (call2 fMin2) (dCons (dOp oIx (dVar 7) (dOp oAdd (dVar 8) (dC (.int 1)))) (dCons (dOp oAdd (dOp oIx (dVar 5) (dVar 8)) (dVar 10)) dNil))) (dOp oAdd (dVar 8) (dC (.int 1)))) dNext)))
  (dFrz 7 (dApp 3 (dVar 7)))))))
  (dFrz 3 (dRet (dVar 3)))))
abbrev n_first_row : List Str := ["reader", "row", "letter", "cost", "other"]
def t_first_row (f_above : DF) (f_meaning : DF) (f_cost_of : DF) : DTS := (dRet (dOp oIx (dLc (dIL (dCall 1 f_above (dCons (dVar 1) dNil))) (dSt false 4) (dAndT (dTest (dOp oEq (dCall 2 f_meaning (dCons (dVar 0) (dCons (dVar 4) dNil))) (dVar 2))) (dTest (dOp oEq (dCall 2 f_cost_of (dCons (dVar 1) (dCons (dVar 4) dNil))) (dVar 3)))) (dVar 4) [4]) (dC (.int 0))))
abbrev n_tape_by : List Str := ["reader", "tape", "text", "heights", "found", "many", "at", "row", "cost"]
def t_tape_by (f_cheapest : DF) (f_first_row : DF) : DTS := (dSeq (dPar2 true false 4 5 (dLst dNil) (dCB (call1 fLen) (dCons (dVar 2) dNil)))
  (dSeq (dFor (dIRR (dCB (call1 fLen) (dCons (dVar 1) dNil))) (dSt false 6) (dSeq (dAsg (dOp oIx (dVar 1) (dVar 6)) (dSt false 7))
  (dSeq (dAsg (dIf (dTest (dOp oGt (dVar 5) (dC (.int 0)))) (dCall 3 f_cheapest (dCons (dVar 0) (dCons (dVar 7) (dCons (dOp oIx (dVar 2) (dOp oSub (dVar 5) (dC (.int 1)))) dNil)))) (dC .non)) (dSt false 8))
  (dIfS (dAndT (dTest (dOp oNotN (dVar 8) (dC .non))) (dTest (dOp oEq (dOp oAdd (dOp oIx (dOp oIx (dVar 3) (dVar 6)) (dOp oSub (dVar 5) (dC (.int 1)))) (dVar 8)) (dOp oIx (dOp oIx (dVar 3) (dOp oAdd (dVar 6) (dC (.int 1)))) (dVar 5))))) (dSeq (dApp 4 (dCall 4 f_first_row (dCons (dVar 0) (dCons (dVar 7) (dCons (dOp oIx (dVar 2) (dOp oSub (dVar 5) (dC (.int 1)))) (dCons (dVar 8) dNil))))))
  (dAug 5 oSub (dC (.int 1)))) (dApp 4 (dCall 4 f_first_row (dCons (dVar 0) (dCons (dVar 7) (dCons (dC (.str "")) (dCons (dCall 3 f_cheapest (dCons (dVar 0) (dCons (dVar 7) (dCons (dC (.str "")) dNil)))) dNil))))))))))
  (dRet (dRev (dVar 4)))))
abbrev n_check_all : List Str := ["reader", "tape", "text"]
def t_check_all (f_check_tape : DF) (f_width_of : DF) (f_check_text : DF) : DTS := (dSeq (dDrop (dCall 2 f_check_tape (dCons (dCall 1 f_width_of (dCons (dVar 0) dNil)) (dCons (dVar 1) dNil))))
  (dDrop (dCall 1 f_check_text (dCons (dVar 2) dNil))))
abbrev n__law_draw : List Str := ["_law_cell", "_law_k", "_law_many", "_law_primes"]
def t__law_draw : DTS := (dSeq (dAsg (dTup (dCons (dC (.int 1000003)) (dCons (dC (.int 1000033)) (dCons (dC (.int 1000037)) (dCons (dC (.int 1000039)) (dCons (dC (.int 1000081)) (dCons (dC (.int 1000099)) (dCons (dC (.int 1000117)) (dCons (dC (.int 1000121)) (dCons (dC (.int 1000133)) (dCons (dC (.int 1000151)) (dCons (dC (.int 1000159)) (dCons (dC (.int 1000171)) (dCons (dC (.int 1000183)) (dCons (dC (.int 1000187)) (dCons (dC (.int 1000193)) (dCons (dC (.int 1000199)) dNil))))))))))))))))) (dSt false 3))
  (dRet (dOp oMod (dOp oMod (dOp oAdd (dOp oMul (dVar 0) (dC (.int 48271))) (dOp oMul (dVar 1) (dC (.int 69621)))) (dOp oIx (dVar 3) (dOp oMod (dVar 1) (dC (.int 16))))) (dVar 2))))
abbrev n__law_cell_at : List Str := ["_law_script", "_law_k"]
def t__law_cell_at (f__law_draw : DF) : DTS := (dSeq (dIfS (dTest (dOp oLt (dVar 1) (dCB (call1 fLen) (dCons (dVar 0) dNil)))) (dRet (dCB (call1 fAbs) (dCons (dOp oIx (dVar 0) (dVar 1)) dNil))) dNext)
  (dRet (dCall 3 f__law_draw (dCons (dOp oAdd (dCB (call1 fAbs) (dCons (dCB (call1 fSum) (dCons (dVar 0) dNil)) dNil)) (dOp oMul (dC (.int 7919)) (dVar 1))) (dCons (dVar 1) (dCons (dC (.int 999983)) dNil))))))
abbrev n__law_digits : List Str := ["_law_script", "_law_at", "_law_many", "_law_base", "_law_cell", "_law_found", "_law_left", "_law_turn", "_law_blend", "_law_more"]
def t__law_digits (f__law_cell_at : DF) (f__law_draw : DF) : DTS := (dSeq (dPar2 false true 4 5 (dCall 2 f__law_cell_at (dCons (dVar 0) (dCons (dVar 1) dNil))) (dLst dNil))
  (dSeq (dAsg (dOp oSub (dVar 4) (dOp oPow (dC (.int 10)) (dC (.int 18)))) (dSt false 6))
  (dSeq (dFor (dIR1 (dVar 2)) (dSt false 7) (dIfS (dTest (dOp oGe (dVar 4) (dOp oPow (dC (.int 10)) (dC (.int 18))))) (dSeq (dApp 5 (dOp oMod (dVar 6) (dVar 3)))
  (dAsg (dOp oDiv (dVar 6) (dVar 3)) (dSt false 6))) (dSeq (dAsg (dCall 3 f__law_draw (dCons (dOp oMul (dOp oAdd (dVar 4) (dOp oMul (dC (.int 977)) (dVar 7))) (dOp oAdd (dOp oAdd (dVar 4) (dOp oMul (dC (.int 31)) (dVar 7))) (dC (.int 5)))) (dCons (dOp oAdd (dOp oMod (dVar 7) (dC (.int 9))) (dC (.int 1))) (dCons (dC (.int 999983)) dNil)))) (dSt false 8))
  (dSeq (dAsg (dCall 3 f__law_draw (dCons (dOp oAdd (dOp oMul (dOp oAdd (dVar 4) (dOp oMul (dC (.int 31)) (dVar 7))) (dOp oAdd (dVar 4) (dC (.int 7)))) (dOp oMul (dC (.int 977)) (dVar 7))) (dCons (dOp oAdd (dOp oMod (dVar 7) (dC (.int 7))) (dC (.int 2))) (dCons (dC (.int 1000003)) dNil)))) (dSt false 9))
  (dApp 5 (dOp oMod (dOp oAdd (dOp oMul (dVar 8) (dC (.int 1000003))) (dVar 9)) (dVar 3)))))))
  (dFrz 5 (dRet (dVar 5))))))
abbrev n__law_rows : List Str := ["_law_width_here", "_law_found", "_law_number", "_law_at"]
def t__law_rows : DTS := (dSeq (dAsg (dLst dNil) (dSt true 1))
  (dSeq (dFor (dIR1 (dOp oShl (dC (.int 1)) (dVar 0))) (dSt false 2) (dApp 1 (dStrM fJoin (dC (.str "")) (dLc (dIR1 (dVar 0)) (dSt false 3) dYes (dIf (dTest (dOp oEq (dOp oAnd (dOp oShr (dVar 2) (dOp oSub (dOp oSub (dVar 0) (dC (.int 1))) (dVar 3))) (dC (.int 1))) (dC (.int 1)))) (dC (.str "o")) (dC (.str "."))) [3]))))
  (dFrz 1 (dRet (dVar 1)))))
abbrev n__law_pool : List Str := ["_law_script", "_law_at", "_law_one"]
def t__law_pool (f__law_digits : DF) : DTS := (dRet (dLc (dIL (dCall 4 f__law_digits (dCons (dVar 0) (dCons (dVar 1) (dCons (dC (.int 3)) (dCons (dC (.int 26)) dNil)))))) (dSt false 2) dYes (dOp oIx (dC (.str "abcdefghijklmnopqrstuvwxyz")) (dVar 2)) [2]))
abbrev n__law_reader : List Str := ["_law_script", "_law_at", "_law_pool_here", "_law_least", "_law_draws", "_law_found", "_law_width_here", "_law_rows_here", "_law_begin", "_law_number", "_law_row"]
def t__law_reader (f__law_digits : DF) (f__law_rows : DF) : DTS := (dSeq (dPar2 false true 4 5 (dCall 4 f__law_digits (dCons (dVar 0) (dCons (dVar 1) (dCons (dC (.int 17)) (dCons (dC (.int 1000)) dNil))))) dNewK)
  (dSeq (dAsg (dOp oAdd (dVar 3) (dOp oMod (dOp oIx (dVar 4) (dC (.int 0))) (dOp oSub (dC (.int 5)) (dVar 3)))) (dSt false 6))
  (dSeq (dAsg (dSl (dCall 1 f__law_rows (dCons (dVar 6) dNil)) dNoPart (dPart (dUn oNeg (dC (.int 1))))) (dSt false 7))
  (dSeq (dAsg (dOp oMod (dOp oDiv (dOp oIx (dVar 4) (dC (.int 0))) (dC (.int 4))) (dCB (call1 fLen) (dCons (dVar 7) dNil))) (dSt false 8))
  (dSeq (dFor (dIZ (dFz (dSl (dVar 4) (dPart (dC (.int 1))) dNoPart)) (dFz (dOp oCat (dSl (dVar 7) (dPart (dVar 8)) dNoPart) (dSl (dVar 7) dNoPart (dPart (dVar 8)))))) (dGTup (dGCons (dSt false 9) (dGCons (dSt false 10) dGNil))) (dIfS (dTest (dOp oLt (dOp oMod (dVar 9) (dC (.int 5))) (dOp oAdd (dC (.int 2)) (dOp oMod (dOp oDiv (dOp oIx (dVar 4) (dC (.int 0))) (dC (.int 64))) (dC (.int 3)))))) (dPut 5 (dOp oIx (dVar 2) (dOp oMod (dOp oDiv (dVar 9) (dC (.int 5))) (dC (.int 3)))) (dVar 10)) dNext))
  (dSeq (dIfS (dTest (dOp oEqE (dVar 5) dNewK)) (dPut 5 (dOp oIx (dVar 2) (dC (.int 0))) (dOp oIx (dVar 7) (dVar 8))) dNext)
  (dFrz 5 (dRet (dVar 5)))))))))
abbrev n__law_width : List Str := ["_law_reader_here"]
def t__law_width : DTS := (dRet (dCB (call1 fLen) (dCons (dOp oIx (dCB (call1 fList) (dCons (dVar 0) dNil)) (dC (.int 0))) dNil)))
abbrev n__law_tape : List Str := ["_law_script", "_law_at", "_law_width_here", "_law_many", "_law_rows_here", "_law_found", "_law_draw_here", "_law_fewer"]
def t__law_tape (f__law_rows : DF) (f__law_digits : DF) : DTS := (dSeq (dPar2 false true 4 5 (dCall 1 f__law_rows (dCons (dVar 2) dNil)) (dLst dNil))
  (dSeq (dFor (dIL (dCall 4 f__law_digits (dCons (dVar 0) (dCons (dVar 1) (dCons (dVar 3) (dCons (dC (.int 4096)) dNil)))))) (dSt false 6) (dSeq (dAsg (dOp oOr (dOp oMod (dOp oDiv (dVar 6) (dC (.int 16))) (dC (.int 16))) (dOp oMul (dOp oMod (dOp oDiv (dVar 6) (dC (.int 256))) (dC (.int 2))) (dC (.int 15)))) (dSt false 7))
  (dApp 5 (dOp oIx (dVar 4) (dOp oMod (dOp oAnd (dOp oMod (dVar 6) (dC (.int 16))) (dVar 7)) (dCB (call1 fLen) (dCons (dVar 4) dNil)))))))
  (dFrz 5 (dRet (dVar 5)))))
abbrev n__law_text : List Str := ["_law_script", "_law_at", "_law_pool_here", "_law_many", "_law_draws", "_law_letters", "_law_draw_here"]
def t__law_text (f__law_digits : DF) : DTS := (dSeq (dAsg (dCall 4 f__law_digits (dCons (dVar 0) (dCons (dVar 1) (dCons (dVar 3) (dCons (dOp oMul (dC (.int 26)) (dC (.int 24))) dNil))))) (dSt false 4))
  (dSeq (dAsg (dC (.str "abcdefghijklmnopqrstuvwxyz")) (dSt false 5))
  (dRet (dStrM fJoin (dC (.str "")) (dLc (dIL (dVar 4)) (dSt false 6) dYes (dIf (dTest (dOp oLt (dOp oDiv (dVar 6) (dC (.int 26))) (dC (.int 23)))) (dOp oIx (dVar 2) (dOp oMod (dOp oDiv (dVar 6) (dC (.int 26))) (dC (.int 3)))) (dOp oIx (dVar 5) (dOp oMod (dVar 6) (dC (.int 26))))) [6])))))
abbrev n__law_over : List Str := ["_law_row", "_law_other", "_law_one", "_law_new"]
def t__law_over : DTS := (dRet (dAnd (dOp oEq (dCB (call1 fLen) (dCons (dVar 0) dNil)) (dCB (call1 fLen) (dCons (dVar 1) dNil))) (dCB (call1 fAll) (dCons (dLc (dIZS (dVar 0) (dVar 1)) (dGTup (dGCons (dSt false 2) (dGCons (dSt false 3) dGNil))) dYes (dOr (dOp oEq (dVar 2) (dC (.str "."))) (dOp oEq (dVar 3) (dC (.str "o")))) [2, 3]) dNil))))
abbrev n__law_means : List Str := ["_law_reader_here", "_law_row"]
def t__law_means : DTS := (dRet (dIf (dTest (dOp (oDIn false) (dVar 1) (dVar 0))) (dOp oDGet (dVar 0) (dVar 1)) (dC (.str ""))))
abbrev n__law_reads : List Str := ["_law_reader_here", "_law_tape_here", "_law_row"]
def t__law_reads (f__law_means : DF) : DTS := (dRet (dStrM fJoin (dC (.str "")) (dLc (dIL (dVar 1)) (dSt false 2) dYes (dCall 2 f__law_means (dCons (dVar 0) (dCons (dVar 2) dNil))) [2])))
abbrev n__law_holes : List Str := ["_law_tape_here", "_law_row", "_law_sign"]
def t__law_holes : DTS := (dRet (dCB (call1 fSum) (dCons (dLc (dIL (dVar 0)) (dSt false 1) dYes (dCB (call1 fLen) (dCons (dLc (dIS (dVar 1)) (dSt false 2) (dTest (dOp oEq (dVar 2) (dC (.str "o")))) (dVar 2) [2]) dNil)) [1]) dNil)))
abbrev n__law_can : List Str := ["_law_tape_here", "_law_other", "_law_row", "_law_new"]
def t__law_can (f__law_over : DF) : DTS := (dRet (dAnd (dOp oEq (dCB (call1 fLen) (dCons (dVar 0) dNil)) (dCB (call1 fLen) (dCons (dVar 1) dNil))) (dCB (call1 fAll) (dCons (dLc (dIZ (dVar 0) (dVar 1)) (dGTup (dGCons (dSt false 2) (dGCons (dSt false 3) dGNil))) dYes (dCall 2 f__law_over (dCons (dVar 2) (dCons (dVar 3) dNil))) [2, 3]) dNil))))
abbrev n__law_cost : List Str := ["_law_reader_here", "_law_row", "_law_letter", "_law_found", "_law_other"]
def t__law_cost (f__law_rows : DF) (f__law_over : DF) (f__law_means : DF) (f__law_holes : DF) : DTS := (dSeq (dAsg (dLst dNil) (dSt true 3))
  (dSeq (dFor (dIL (dCall 1 f__law_rows (dCons (dCB (call1 fLen) (dCons (dVar 1) dNil)) dNil))) (dSt false 4) (dIfS (dAndT (dTest (dCall 2 f__law_over (dCons (dVar 1) (dCons (dVar 4) dNil)))) (dTest (dOp oEq (dCall 2 f__law_means (dCons (dVar 0) (dCons (dVar 4) dNil))) (dVar 2)))) (dApp 3 (dOp oSub (dCall 1 f__law_holes (dCons (dFz (dLst (dCons (dVar 4) dNil))) dNil)) (dCall 1 f__law_holes (dCons (dFz (dLst (dCons (dVar 1) dNil))) dNil)))) dNext))
  (dRet (dIf (dTest (dOp oNeD (dVar 3) (dLst dNil))) (dCB (call1 fMin) (dCons (dVar 3) dNil)) (dC .non)))))
abbrev n__law_fewest : List Str := ["_law_reader_here", "_law_tape_here", "_law_text_here", "_law_line", "_law_row", "_law_last", "_law_rub", "_law_many", "_law_prices"]
def t__law_fewest (f__law_cost : DF) : DTS := (dSeq (dAsg (dOp oCat (dLst (dCons (dC (.int 0)) dNil)) (dOp oRep (dLst (dCons (dC .non) dNil)) (dCB (call1 fLen) (dCons (dVar 2) dNil)))) (dSt true 3))
  (dSeq (dFor (dIL (dVar 1)) (dSt false 4) (dSeq (dFrz 3 (dPar3 false true false 5 3 6 (dVar 3) (dLst dNil) (dCall 3 f__law_cost (dCons (dVar 0) (dCons (dVar 4) (dCons (dC (.str "")) dNil))))))
  (dFor (dIR1 (dOp oAdd (dCB (call1 fLen) (dCons (dVar 2) dNil)) (dC (.int 1)))) (dSt false 7) (dSeq (dAsg (dIf (dTest (dOp oNotN (dOp oIx (dVar 5) (dVar 7)) (dC .non))) (dLst (dCons (dOp oAdd (dOp oIx (dVar 5) (dVar 7)) (dVar 6)) dNil)) (dLst dNil)) (dSt true 8))
  (dSeq (dIfS (dAndT (dTest (dOp oGt (dVar 7) (dC (.int 0)))) (dAndT (dTest (dOp oNotN (dOp oIx (dVar 5) (dOp oSub (dVar 7) (dC (.int 1)))) (dC .non))) (dTest (dOp oNotN (dCall 3 f__law_cost (dCons (dVar 0) (dCons (dVar 4) (dCons (dOp oIx (dVar 2) (dOp oSub (dVar 7) (dC (.int 1)))) dNil)))) (dC .non))))) (dApp 8 (dOp oAdd (dOp oIx (dVar 5) (dOp oSub (dVar 7) (dC (.int 1)))) (dCall 3 f__law_cost (dCons (dVar 0) (dCons (dVar 4) (dCons (dOp oIx (dVar 2) (dOp oSub (dVar 7) (dC (.int 1)))) dNil)))))) dNext)
  (dApp 3 (dIf (dTest (dOp oNeD (dVar 8) (dLst dNil))) (dCB (call1 fMin) (dCons (dVar 8) dNil)) (dC .non))))))))
  (dRet (dOp oIx (dVar 3) (dCB (call1 fLen) (dCons (dVar 2) dNil))))))
abbrev n__law_are_heights : List Str := ["_law_reader_here", "_law_tape_here", "_law_text_here", "_law_high", "_law_at", "_law_row", "_law_many", "_law_cost_here"]
def t__law_are_heights (f__law_cost : DF) : DTS := (dSeq (dIfS (dOrT (dTest (dOp oNe (dCB (call1 fLen) (dCons (dVar 3) dNil)) (dOp oAdd (dCB (call1 fLen) (dCons (dVar 1) dNil)) (dC (.int 1))))) (dOrT (dTest (dCB (call1 fAny) (dCons (dLc (dIL (dVar 3)) (dSt false 5) dYes (dOp oNe (dCB (call1 fLen) (dCons (dVar 5) dNil)) (dOp oAdd (dCB (call1 fLen) (dCons (dVar 2) dNil)) (dC (.int 1)))) [5]) dNil))) (dTest (dOp oNe (dOp oIx (dOp oIx (dVar 3) (dC (.int 0))) (dC (.int 0))) (dC (.int 0)))))) (dRet (dC (.bl false))) dNext)
  (dSeq (dFor (dIE (dVar 1)) (dGTup (dGCons (dSt false 4) (dGCons (dSt false 5) dGNil))) (dFor (dIR1 (dOp oAdd (dCB (call1 fLen) (dCons (dVar 2) dNil)) (dC (.int 1)))) (dSt false 6) (dSeq (dIfS (dTest (dOp oGt (dOp oIx (dOp oIx (dVar 3) (dOp oAdd (dVar 4) (dC (.int 1)))) (dVar 6)) (dOp oAdd (dOp oIx (dOp oIx (dVar 3) (dVar 4)) (dVar 6)) (dCall 3 f__law_cost (dCons (dVar 0) (dCons (dVar 5) (dCons (dC (.str "")) dNil))))))) (dRet (dC (.bl false))) dNext)
  (dSeq (dAsg (dIf (dTest (dOp oLt (dVar 6) (dCB (call1 fLen) (dCons (dVar 2) dNil)))) (dCall 3 f__law_cost (dCons (dVar 0) (dCons (dVar 5) (dCons (dOp oIx (dVar 2) (dVar 6)) dNil)))) (dC .non)) (dSt false 7))
  (dIfS (dAndT (dTest (dOp oNotN (dVar 7) (dC .non))) (dTest (dOp oGt (dOp oIx (dOp oIx (dVar 3) (dOp oAdd (dVar 4) (dC (.int 1)))) (dOp oAdd (dVar 6) (dC (.int 1)))) (dOp oAdd (dOp oIx (dOp oIx (dVar 3) (dVar 4)) (dVar 6)) (dVar 7))))) (dRet (dC (.bl false))) dNext)))))
  (dRet (dC (.bl true)))))
abbrev n__law_are_marks : List Str := ["_law_reader_here", "_law_tape_here", "_law_text_here", "_law_marks", "_law_row", "_law_one", "_law_other", "_law_due"]
def t__law_are_marks (f__law_cost : DF) : DTS := (dSeq (dIfS (dOrT (dTest (dOp oNe (dCB (call1 fLen) (dCons (dVar 3) dNil)) (dOp oAdd (dCB (call1 fLen) (dCons (dVar 1) dNil)) (dC (.int 1))))) (dOrT (dTest (dOp oNe (dOp oIx (dVar 3) (dC (.int 0))) (dC (.int 0)))) (dTest (dOp oGe (dOp oIx (dVar 3) (dUn oNeg (dC (.int 1)))) (dCB (call1 fLen) (dCons (dVar 2) dNil)))))) (dRet (dC (.bl false))) dNext)
  (dSeq (dFor (dIZ3 (dVar 1) (dVar 3) (dFz (dSl (dVar 3) (dPart (dC (.int 1))) dNoPart))) (dGTup (dGCons (dSt false 4) (dGCons (dSt false 5) (dGCons (dSt false 6) dGNil)))) (dSeq (dAsg (dAnd (dOp oLt (dVar 5) (dCB (call1 fLen) (dCons (dVar 2) dNil))) (dOp oNotN (dCall 3 f__law_cost (dCons (dVar 0) (dCons (dVar 4) (dCons (dOp oIx (dVar 2) (dVar 5)) dNil)))) (dC .non))) (dSt false 7))
  (dIfS (dTest (dOp oLt (dVar 6) (dOp oAdd (dVar 5) (dCB (call1 fInt) (dCons (dVar 7) dNil))))) (dRet (dC (.bl false))) dNext)))
  (dRet (dC (.bl true)))))
abbrev n__law_kinds : List Str := ["_law_told", "_law_found"]
def t__law_kinds (K : PySem.W.Frag) (c_Answer : Addr) (c_Barred : Addr) (c_Bears : Addr) (c_Breaks : Addr) (c_Never : Addr) (c_Stood : Addr) (c_Written : Addr) : DTS := (dSeq (dAsg (dLst (dCons (dCB (call2 (fIsiC K)) (dCons (dVar 0) (dCons (dC (.at c_Written)) dNil))) (dCons (dCB (call2 (fIsiC K)) (dCons (dVar 0) (dCons (dC (.at c_Barred)) dNil))) (dCons (dCB (call2 (fIsiC K)) (dCons (dVar 0) (dCons (dC (.at c_Stood)) dNil))) (dCons (dCB (call2 (fIsiC K)) (dCons (dVar 0) (dCons (dC (.at c_Never)) dNil))) dNil))))) (dSt false 1))
  (dRet (dOp oCat (dVar 1) (dLst (dCons (dCB (call2 (fIsiC K)) (dCons (dVar 0) (dCons (dC (.at c_Bears)) dNil))) (dCons (dCB (call2 (fIsiC K)) (dCons (dVar 0) (dCons (dC (.at c_Breaks)) dNil))) (dCons (dNot (dCB (call2 (fIsiC K)) (dCons (dVar 0) (dCons (dC (.at c_Answer)) dNil)))) dNil)))))))
abbrev n__law_whole : List Str := ["_law_number"]
def t__law_whole : DTS := (dRet (dAnd (dCB (call2 fIsi) (dCons (dVar 0) (dCons (dC (.ty "int")) dNil))) (dNot (dCB (call2 fIsi) (dCons (dVar 0) (dCons (dC (.ty "bool")) dNil))))))
abbrev n_law : List Str := ["_law_script", "_law_pool_here", "_law_by", "_law_reader_here", "_law_width_here", "_law_draws", "_law_tape_here", "_law_text_here", "_law_reads_here", "_law_some", "_law_told"]
def t_law (K : PySem.W.Frag) (c_Barred : Addr) (f__law_pool : DF) (f__law_reader : DF) (f__law_width : DF) (f__law_digits : DF) (f__law_tape : DF) (f__law_text : DF) (f__law_reads : DF) (f__law_write_right : DF) (f_write : DF) : DTS := (dSeq (dAsg (dSl (dVar 0) dNoPart (dPart (dC (.int 63)))) (dSt false 0))
  (dSeq (dAsg (dCall 2 f__law_pool (dCons (dVar 0) (dCons (dC (.int 0)) dNil))) (dSt false 1))
  (dSeq (dFor (dIR2 (dC (.int 1)) (dCB (call2 fMax2) (dCons (dC (.int 2)) (dCons (dCB (call2 fMin2) (dCons (dC (.int 5)) (dCons (dCB (call1 fLen) (dCons (dVar 0) dNil)) dNil))) dNil)))) (dSt false 2) (dSeq (dAsg (dCall 4 f__law_reader (dCons (dVar 0) (dCons (dVar 2) (dCons (dVar 1) (dCons (dC (.int 1)) dNil))))) (dSt false 3))
  (dSeq (dPar2 false false 4 5 (dCall 1 f__law_width (dCons (dVar 3) dNil)) (dCall 4 f__law_digits (dCons (dVar 0) (dCons (dOp oAdd (dVar 2) (dC (.int 1))) (dCons (dC (.int 4)) (dCons (dC (.int 1009)) dNil))))))
  (dSeq (dAsg (dCall 4 f__law_tape (dCons (dVar 0) (dCons (dOp oAdd (dVar 2) (dC (.int 2))) (dCons (dVar 4) (dCons (dIf (dTest (dOp oEq (dOp oMod (dOp oIx (dVar 5) (dC (.int 3))) (dC (.int 40))) (dC (.int 0)))) (dC (.int 30)) (dOp oMod (dOp oIx (dVar 5) (dC (.int 0))) (dC (.int 10)))) dNil))))) (dSt false 6))
  (dSeq (dAsg (dCall 4 f__law_text (dCons (dVar 0) (dCons (dOp oAdd (dVar 2) (dC (.int 3))) (dCons (dVar 1) (dCons (dOp oMod (dOp oMod (dOp oIx (dVar 5) (dC (.int 1))) (dOp oAdd (dCB (call1 fLen) (dCons (dVar 6) dNil)) (dC (.int 2)))) (dC (.int 31))) dNil))))) (dSt false 7))
  (dSeq (dAsg (dCall 2 f__law_reads (dCons (dVar 3) (dCons (dVar 6) dNil))) (dSt false 8))
  (dFor (dIT (dTup (dCons (dVar 7) (dCons (dSl (dVar 7) dNoPart (dPart (dOp oAdd (dC (.int 1)) (dOp oMod (dOp oIx (dVar 5) (dC (.int 2))) (dC (.int 3)))))) (dCons (dVar 8) (dCons (dSl (dVar 8) (dPart (dC (.int 1))) dNoPart) (dCons (dOp oCatS (dStr2 (dVar 8)) (dOp oIx (dVar 1) (dC (.int 0)))) (dCons (dOp oRepS (dOp oIx (dVar 1) (dC (.int 1))) (dOp oMod (dOp oIx (dVar 5) (dC (.int 2))) (dC (.int 5)))) dNil)))))))) (dSt false 9) (dIfS (dNotT (dTest (dCall 3 f__law_write_right (dCons (dVar 3) (dCons (dVar 6) (dCons (dSl (dVar 9) dNoPart (dPart (dC (.int 30)))) dNil)))))) (dRet (dC (.bl false))) dNext))))))))
  (dSeq (dAsg (dCall 3 f_write (dCons (dFz (dDisp1 (dC (.str ".")) (dC (.str "q")))) (dCons (dFz (dLst (dCons (dC (.str "o")) dNil))) (dCons (dC (.str "q")) dNil)))) (dSt false 10))
  (dRet (dAnd (dCB (call2 (fIsiC K)) (dCons (dVar 10) (dCons (dC (.at c_Barred)) dNil))) (dAnd (dOp oEqD (dFld K "marks" (dVar 10)) (dLst (dCons (dC (.int 0)) (dCons (dC (.int 0)) dNil)))) (dOp oEqD (dFld K "heights" (dCall 3 f_write (dCons (dFz (dDisp1 (dC (.str ".")) (dC (.str "q")))) (dCons (dFz (dLst dNil)) (dCons (dC (.str "")) dNil))))) (dLst (dCons (dFz (dLst (dCons (dC (.int 0)) dNil))) dNil))))))))))
end W02
set_option Elab.async false
set_option linter.all false
set_option maxRecDepth 100000
set_option maxHeartbeats 4000000
/-! Marks, heights, prices: plain Lean. -/
namespace M
open PySem PySem.Spec PyProof.Rows L2 Dl
/-! ### prefixes -/
def prefL {α β : Type} (f : List α → β) (l : List α) : List β := (List.range (l.length + 1)).map fun i => f (l.take i)
section
variable {α β : Type} (f : List α → β)
theorem prefL_nil : prefL f [] = [f []] := rfl
theorem prefL_len (l : List α) : (prefL f l).length = l.length + 1 := by simp [prefL]
theorem prefL_get (l : List α) {i : Nat} (h : i ≤ l.length) : (prefL f l)[i]? = some (f (l.take i)) := by
  unfold prefL
  rw [List.getElem?_map, List.getElem?_range (by omega)]
  rfl
theorem prefL_snoc (l : List α) (x : α) : prefL f (l ++ [x]) = prefL f l ++ [f (l ++ [x])] := by
  unfold prefL
  rw [List.length_append, List.range_succ, List.map_append]
  have e1 : (List.range (l.length + [x].length)).map (fun i => f ((l ++ [x]).take i)) = (List.range (l.length + 1)).map fun i => f (l.take i) := by
    refine List.map_congr_left fun i hi => ?_
    rw [List.mem_range] at hi
    have : i ≤ l.length := by simp at hi; omega
    rw [List.take_append_of_le_length this]
  have e2 : (l ++ [x]).take (l.length + [x].length) = l ++ [x] := by rw [← List.length_append, List.take_length]
  rw [e1, List.map_cons, List.map_nil, e2]
theorem prefL_last (l : List α) : (prefL f l).getLast? = some (f l) := by
  rw [List.getLast?_eq_getElem?, prefL_len, Nat.add_sub_cancel, prefL_get f l (Nat.le_refl _), List.take_length]
end
/-! ### marks -/
def kstep (r : Rdr) (t : List Nat) (m : Nat) (row : Str) : Nat := match t[m]? with
  | some c => if (cheap r row (L1 c)).isSome = true then m + 1 else m
  | none => m
def kF (r : Rdr) (t : List Nat) (rows : List Str) : Nat := rows.foldl (kstep r t) 0
theorem kF_snoc (r : Rdr) (t : List Nat) (rows : List Str) (row : Str) : kF r t (rows ++ [row]) = kstep r t (kF r t rows) row := by
  unfold kF
  rw [List.foldl_append]
  rfl
theorem kstep_le (r : Rdr) (t : List Nat) (m : Nat) (row : Str) (h : m ≤ t.length) : kstep r t m row ≤ t.length := by
  unfold kstep
  split
  · rename_i c e
    have := (List.getElem?_eq_some_iff.mp e).1
    split <;> omega
  · exact h
theorem kF_le (r : Rdr) (t : List Nat) : ∀ rows : List Str, kF r t rows ≤ t.length := by
  intro rows
  suffices ∀ (rows : List Str) (m : Nat), m ≤ t.length → rows.foldl (kstep r t) m ≤ t.length from this rows 0 (Nat.zero_le _)
  intro rows
  induction rows with
  | nil => exact fun m h => h
  | cons a l ih => exact fun m h => ih _ (kstep_le r t m a h)
def marksL (r : Rdr) (t : List Nat) (tape : List Str) : List Int := prefL (fun rows => (kF r t rows : Int)) tape
/-! ### heights: a line as a function -/
def lineF (n : Nat) (f : Nat → Int) : List Int := (List.range (n + 1)).map f
def rub (r : Rdr) (row : Str) : Int := (cheap r row "").getD 0
def stepF (r : Rdr) (t : List Nat) (f : Nat → Int) (row : Str) : Nat → Int
  | 0 => f 0 + rub r row
  | m + 1 => match (t[m]?).bind fun c => cheap r row (L1 c) with
    | none => f (m + 1) + rub r row
    | some c => min (f (m + 1) + rub r row) (f m + c)
def base (m : Nat) : Int := if m = 0 then 0 else 1000
def hF (r : Rdr) (t : List Nat) (rows : List Str) : Nat → Int := rows.foldl (stepF r t) base
theorem hF_snoc (r : Rdr) (t : List Nat) (rows : List Str) (row : Str) : hF r t (rows ++ [row]) = stepF r t (hF r t rows) row := by
  unfold hF
  rw [List.foldl_append]
  rfl
def highL (r : Rdr) (t : List Nat) (tape : List Str) : List (List Int) := prefL (fun rows => lineF t.length (hF r t rows)) tape
theorem lineF_len (n : Nat) (f : Nat → Int) : (lineF n f).length = n + 1 := by simp [lineF]
theorem lineF_get {n : Nat} {f : Nat → Int} {m : Nat} (h : m ≤ n) : (lineF n f)[m]? = some (f m) := by
  unfold lineF
  rw [List.getElem?_map, List.getElem?_range (by omega)]
  rfl
/-- the line half done: the first k letters looked at -/
def midF (r : Rdr) (t : List Nat) (f : Nat → Int) (row : Str) (k : Nat) (m : Nat) : Int := if m ≤ k then stepF r t f row m else f m + rub r row
theorem midF_zero (r : Rdr) (t : List Nat) (f : Nat → Int) (row : Str) : midF r t f row 0 = fun m => f m + rub r row := by
  funext m
  unfold midF
  split
  · rename_i h
    have : m = 0 := by omega
    subst this
    rfl
  · rfl
theorem lineF_congr {n : Nat} {f g : Nat → Int} (h : ∀ m, m ≤ n → f m = g m) : lineF n f = lineF n g := by
  unfold lineF
  exact List.map_congr_left fun m hm => h m (by rw [List.mem_range] at hm; omega)
theorem lineF_set {n : Nat} {f : Nat → Int} {m : Nat} {v : Int} : (lineF n f).set m v = lineF n fun j => if j = m then v else f j := by
  unfold lineF
  apply List.ext_getElem?
  intro i
  rw [List.getElem?_set]
  by_cases h : m = i
  · subst h
    by_cases hl : m < n + 1
    · simp [hl]
    · simp [hl]
  · rw [if_neg h, List.getElem?_map, List.getElem?_map]
    by_cases hl : i < n + 1
    · rw [List.getElem?_range hl]
      simp [Ne.symm h]
    · rw [List.getElem?_eq_none (by simp; omega)]
      rfl
theorem mid_full (r : Rdr) (t : List Nat) (f : Nat → Int) (row : Str) : lineF t.length (midF r t f row t.length) = lineF t.length (stepF r t f row) :=
  lineF_congr fun m hm => by unfold midF; rw [if_pos hm]
theorem mid_none {r : Rdr} {t : List Nat} {f : Nat → Int} {row : Str} {k c : Nat} (hc : t[k]? = some c) (h : cheap r row (L1 c) = none) : midF r t f row (k + 1) = midF r t f row k := by
  funext m
  unfold midF
  by_cases e : m = k + 1
  · subst e
    rw [if_pos (Nat.le_refl _), if_neg (by omega)]
    show (match (t[k]?).bind fun c => cheap r row (L1 c) with | none => f (k + 1) + rub r row | some c => min (f (k + 1) + rub r row) (f k + c)) = _
    rw [hc]
    show (match cheap r row (L1 c) with | none => f (k + 1) + rub r row | some c => min (f (k + 1) + rub r row) (f k + c)) = _
    rw [h]
  · by_cases h2 : m ≤ k
    · rw [if_pos h2, if_pos (by omega)]
    · rw [if_neg h2, if_neg (by omega)]
theorem mid_some {r : Rdr} {t : List Nat} {f : Nat → Int} {row : Str} {k c : Nat} {v : Int} (n : Nat) (hc : t[k]? = some c) (h : cheap r row (L1 c) = some v) : (lineF n (midF r t f row k)).set (k + 1) (min (f (k + 1) + rub r row) (f k + v)) = lineF n (midF r t f row (k + 1)) := by
  rw [lineF_set]
  refine lineF_congr fun m hm => ?_
  unfold midF
  by_cases e : m = k + 1
  · subst e
    rw [if_pos rfl, if_pos (Nat.le_refl _)]
    show _ = (match (t[k]?).bind fun c => cheap r row (L1 c) with | none => f (k + 1) + rub r row | some c => min (f (k + 1) + rub r row) (f k + c))
    rw [hc]
    show _ = (match cheap r row (L1 c) with | none => f (k + 1) + rub r row | some c => min (f (k + 1) + rub r row) (f k + c))
    rw [h]
  · rw [if_neg e]
    by_cases h2 : m ≤ k
    · rw [if_pos h2, if_pos (by omega)]
    · rw [if_neg h2, if_neg (by omega)]
/-! ### prices -/
theorem cost_rows : ∀ w, w < 5 → ∀ a ∈ rowsS w, ∀ b ∈ rowsS w, goes a b = true → 0 ≤ cost a b ∧ cost a b ≤ 4 := by decide +kernel
theorem least_mem {ns : List Int} {k : Int} (h : leastOf ns = some k) : k ∈ ns := by
  cases ns with
  | nil => cases h
  | cons n ns =>
    have e : ns.foldl min n = k := Option.some.inj h
    rw [← e]
    exact foldl_min_mem ns n
theorem least_none {ns : List Int} (h : leastOf ns = none) : ns = [] := by
  cases ns with
  | nil => rfl
  | cons n ns => cases h
/-- the all-hole row -/
def full (w : Nat) : Str := ⟨(List.replicate w 111).toArray⟩
theorem full_goes : ∀ w, w < 5 → full w ∈ rowsS w ∧ (∀ a ∈ rowsS w, goes a (full w) = true) ∧ 46 ∉ (full w).cps.toList := by decide +kernel
section
variable {r : Rdr} {w : Nat} {row : Str}
theorem cheap_mem {l : Str} {c : Int} (h : cheap r row l = some c) : ∃ o ∈ rowsS row.length, goes row o = true ∧ mean r o = l ∧ cost row o = c := by
  unfold cheap at h
  have := least_mem h
  obtain ⟨o, ho, e⟩ := List.mem_map.mp this
  rw [List.mem_filter] at ho
  obtain ⟨h1, h2⟩ := ho
  unfold abv at h1
  rw [List.mem_filter] at h1
  exact ⟨o, h1.1, h1.2, eq_of_beq h2, e⟩
theorem cheap_range (hw : w < 5) (hr : row ∈ rowsS w) {l : Str} {c : Int} (h : cheap r row l = some c) : 0 ≤ c ∧ c ≤ 4 := by
  obtain ⟨o, h1, h2, _, e⟩ := cheap_mem h
  rw [(rows_isRow w hw row hr).2] at h1
  rw [← e]
  exact cost_rows w hw row hr o h1 h2
theorem mean_full (g : Good r w) : mean r (full w) = "" := by
  unfold mean
  cases e : r.find? fun p => decide (p.1 = full w) with
  | none => rfl
  | some p =>
    exfalso
    have h1 := List.find?_some e
    have h2 := (g.rows p (List.mem_of_find?_eq_some e)).2
    rw [of_decide_eq_true h1] at h2
    exact (full_goes w (by have := g.w4; omega)).2.2 h2
theorem rub_some (g : Good r w) (hr : row ∈ rowsS w) : cheap r row "" = some (rub r row) := by
  have hw : w < 5 := by have := g.w4; omega
  unfold rub
  cases e : cheap r row "" with
  | some c => rfl
  | none =>
    exfalso
    unfold cheap at e
    have h := least_none e
    rw [List.map_eq_nil_iff, List.filter_eq_nil_iff] at h
    obtain ⟨f1, f2, f3⟩ := full_goes w hw
    refine h (full w) ?_ ?_
    · unfold abv
      rw [List.mem_filter, (rows_isRow w hw row hr).2]
      exact ⟨f1, f2 row hr⟩
    · rw [mean_full g]
      rfl
end
end M
set_option Elab.async false
set_option linter.all false
set_option maxRecDepth 100000
set_option maxHeartbeats 4000000
/-! The fewest holes, and what heights and marks say of them. -/
namespace M
open PySem PySem.Spec PyProof.Rows L2 Dl
def mayK (r : Rdr) (t : List Nat) (row : Str) (k : Nat) : Bool := match t[k]? with
  | some c => (cheap r row (L1 c)).isSome
  | none => false
theorem kstep_may (r : Rdr) (t : List Nat) (k : Nat) (row : Str) : kstep r t k row = if mayK r t row k = true then k + 1 else k := by
  unfold kstep mayK
  cases t[k]? with
  | none => rfl
  | some c => rfl
theorem may_lt {r : Rdr} {t : List Nat} {row : Str} {k : Nat} (h : mayK r t row k = true) : k < t.length := by
  unfold mayK at h
  cases e : t[k]? with
  | none => rw [e] at h; cases h
  | some c => exact (List.getElem?_eq_some_iff.mp e).1
theorem isNon_opt (o : Option Int) : (!isNonD (optD o)) = o.isSome := by
  cases o <;> rfl
def pricesA (r : Rdr) (row : Str) (o : Option Int) : List Int := match o with
  | some v => [v + rub r row]
  | none => []
def pricesB (r : Rdr) (t : List Nat) (row : Str) (g : Nat → Option Int) : Nat → List Int
  | 0 => []
  | m + 1 => match g m, (t[m]?).bind fun c => cheap r row (L1 c) with
    | some v, some c => [v + c]
    | _, _ => []
def gstep (r : Rdr) (t : List Nat) (g : Nat → Option Int) (row : Str) : Nat → Option Int := fun m => leastOf (pricesA r row (g m) ++ pricesB r t row g m)
def gbase (m : Nat) : Option Int := if m = 0 then some 0 else none
def gF (r : Rdr) (t : List Nat) (rows : List Str) : Nat → Option Int := rows.foldl (gstep r t) gbase
theorem gF_snoc (r : Rdr) (t : List Nat) (rows : List Str) (row : Str) : gF r t (rows ++ [row]) = gstep r t (gF r t rows) row := by
  unfold gF
  rw [List.foldl_append]
  rfl
/-- heights against prices -/
def RelH (k : Nat) (g : Nat → Option Int) (h : Nat → Int) : Prop := ∀ m, (∀ v, g m = some v → h m = v ∧ 0 ≤ v ∧ v ≤ 4 * k) ∧ (g m = none → 1000 ≤ h m)
section
variable {r : Rdr} {w : Nat} {row : Str} {t : List Nat}
theorem bind_range (hw : w < 5) (hr : row ∈ rowsS w) {m : Nat} {c : Int} (h : ((t[m]?).bind fun c => cheap r row (L1 c)) = some c) : 0 ≤ c ∧ c ≤ 4 := by
  obtain ⟨x, _, hx⟩ := Option.bind_eq_some_iff.mp h
  exact cheap_range hw hr hx
theorem rub_range (g : Good r w) (hr : row ∈ rowsS w) : 0 ≤ rub r row ∧ rub r row ≤ 4 := cheap_range (by have := g.w4; omega) hr (rub_some g hr)
theorem relH_step (gd : Good r w) (hr : row ∈ rowsS w) {k : Nat} (hk : k < 100) {g : Nat → Option Int} {h : Nat → Int} (R : RelH k g h) : RelH (k + 1) (gstep r t g row) (stepF r t h row) := by
  have hw : w < 5 := by have := gd.w4; omega
  have hb := rub_range gd hr
  intro m
  cases m with
  | zero =>
    have R0 := R 0
    show (∀ v, leastOf (pricesA r row (g 0) ++ []) = some v → h 0 + rub r row = v ∧ 0 ≤ v ∧ v ≤ 4 * ((k + 1 : Nat) : Int)) ∧ (leastOf (pricesA r row (g 0) ++ []) = none → 1000 ≤ h 0 + rub r row)
    cases e : g 0 with
    | none =>
      refine ⟨fun v z => ?_, fun _ => ?_⟩
      · cases z
      · have := R0.2 e; omega
    | some v0 =>
      obtain ⟨h1, h2, h3⟩ := R0.1 v0 e
      refine ⟨fun v z => ?_, fun z => ?_⟩
      · have z : some (v0 + rub r row) = some v := z
        cases z
        refine ⟨by omega, by omega, by omega⟩
      · cases z
  | succ m =>
    have R0 := R m
    have R1 := R (m + 1)
    show (∀ v, leastOf (pricesA r row (g (m + 1)) ++ (match g m, (t[m]?).bind fun c => cheap r row (L1 c) with | some v, some c => [v + c] | _, _ => [])) = some v →
        (match (t[m]?).bind fun c => cheap r row (L1 c) with | none => h (m + 1) + rub r row | some c => min (h (m + 1) + rub r row) (h m + c)) = v ∧ 0 ≤ v ∧ v ≤ 4 * ((k + 1 : Nat) : Int)) ∧
      (leastOf (pricesA r row (g (m + 1)) ++ (match g m, (t[m]?).bind fun c => cheap r row (L1 c) with | some v, some c => [v + c] | _, _ => [])) = none → 1000 ≤ (match (t[m]?).bind fun c => cheap r row (L1 c) with | none => h (m + 1) + rub r row | some c => min (h (m + 1) + rub r row) (h m + c)))
    cases ec : (t[m]?).bind fun c => cheap r row (L1 c) with
    | none =>
      cases e1 : g (m + 1) with
      | none =>
        have := R1.2 e1
        refine ⟨fun v z => ?_, fun _ => ?_⟩
        · cases e0 : g m <;> rw [e0] at z <;> cases z
        · show 1000 ≤ h (m + 1) + rub r row
          omega
      | some v1 =>
        obtain ⟨h1, h2, h3⟩ := R1.1 v1 e1
        refine ⟨fun v z => ?_, fun z => ?_⟩
        · have z : some (v1 + rub r row) = some v := by
            cases e0 : g m <;> rw [e0] at z <;> exact z
          cases z
          exact ⟨by show h (m + 1) + rub r row = v1 + rub r row; omega, by omega, by omega⟩
        · cases e0 : g m <;> rw [e0] at z <;> cases z
    | some c =>
      have hc := bind_range hw hr ec
      cases e1 : g (m + 1) with
      | none =>
        have h1 := R1.2 e1
        cases e0 : g m with
        | none =>
          have h0 := R0.2 e0
          refine ⟨fun v z => (by cases z), fun _ => ?_⟩
          show 1000 ≤ min (h (m + 1) + rub r row) (h m + c)
          omega
        | some v0 =>
          obtain ⟨a1, a2, a3⟩ := R0.1 v0 e0
          refine ⟨fun v z => ?_, fun z => by cases z⟩
          have z : some (v0 + c) = some v := z
          cases z
          refine ⟨?_, by omega, by omega⟩
          show min (h (m + 1) + rub r row) (h m + c) = v0 + c
          omega
      | some v1 =>
        obtain ⟨h1, h2, h3⟩ := R1.1 v1 e1
        cases e0 : g m with
        | none =>
          have h0 := R0.2 e0
          refine ⟨fun v z => ?_, fun z => by cases z⟩
          have z : some (v1 + rub r row) = some v := z
          cases z
          refine ⟨?_, by omega, by omega⟩
          show min (h (m + 1) + rub r row) (h m + c) = v1 + rub r row
          omega
        | some v0 =>
          obtain ⟨a1, a2, a3⟩ := R0.1 v0 e0
          refine ⟨fun v z => ?_, fun z => by cases z⟩
          have z : some (min (v1 + rub r row) (v0 + c)) = some v := z
          cases z
          refine ⟨?_, by omega, by omega⟩
          show min (h (m + 1) + rub r row) (h m + c) = min (v1 + rub r row) (v0 + c)
          rw [h1, a1]
theorem relH_fold (gd : Good r w) : ∀ (rows : List Str) (k : Nat) (g : Nat → Option Int) (h : Nat → Int), (∀ row ∈ rows, row ∈ rowsS w) → k + rows.length ≤ 100 → RelH k g h → RelH (k + rows.length) (rows.foldl (gstep r t) g) (rows.foldl (stepF r t) h)
  | [], k, g, h, _, _, R => R
  | a :: l, k, g, h, hr, hk, R => by
    have hk' : k + (l.length + 1) ≤ 100 := hk
    have := relH_fold gd l (k + 1) _ _ (fun x hx => hr x (List.mem_cons_of_mem _ hx)) (by omega) (relH_step (t := t) gd (hr a (List.mem_cons_self ..)) (by omega) R)
    rw [show k + 1 + l.length = k + (a :: l).length by rw [List.length_cons]; omega] at this
    exact this
theorem relH (gd : Good r w) {rows : List Str} (hr : ∀ row ∈ rows, row ∈ rowsS w) (hl : rows.length ≤ 30) : RelH rows.length (gF r t rows) (hF r t rows) := by
  have := relH_fold (t := t) gd rows 0 gbase base hr (by omega) (fun m => by
    unfold gbase base
    by_cases h : m = 0
    · rw [if_pos h, if_pos h]
      exact ⟨fun v z => by cases z; exact ⟨rfl, by omega, by omega⟩, fun z => by cases z⟩
    · rw [if_neg h, if_neg h]
      exact ⟨fun v z => (by cases z), fun _ => by omega⟩)
  rw [Nat.zero_add] at this
  exact this
/-- marks against prices -/
def RelK (t : List Nat) (g : Nat → Option Int) (k : Nat) : Prop := k ≤ t.length ∧ ∀ m, m ≤ t.length → (g m).isSome = decide (m ≤ k)
theorem relK_step {g : Nat → Option Int} {k : Nat} (R : RelK t g k) : RelK t (gstep r t g row) (kstep r t k row) := by
  refine ⟨kstep_le r t k row R.1, fun m hm => ?_⟩
  have ls : ∀ l : List Int, (leastOf l).isSome = !l.isEmpty := fun l => by cases l <;> rfl
  show (leastOf (pricesA r row (g m) ++ pricesB r t row g m)).isSome = _
  rw [ls]
  have Rm := R.2 m hm
  by_cases h1 : m ≤ k
  · rw [decide_eq_true h1] at Rm
    obtain ⟨v, ev⟩ := Option.isSome_iff_exists.mp Rm
    have hk : k ≤ kstep r t k row := by
      unfold kstep
      split
      · split <;> omega
      · omega
    rw [ev, decide_eq_true (by omega)]
    rfl
  · rw [decide_eq_false h1] at Rm
    have ev : g m = none := by
      cases e : g m with
      | none => rfl
      | some v => rw [e] at Rm; cases Rm
    rw [ev]
    show (!(pricesB r t row g m).isEmpty) = _
    cases m with
    | zero => omega
    | succ j =>
      have Rj := R.2 j (by omega)
      show (!(match g j, (t[j]?).bind fun c => cheap r row (L1 c) with | some v, some c => [v + c] | _, _ => []).isEmpty) = _
      have hj : j < t.length := by omega
      have et : t[j]? = some t[j] := List.getElem?_eq_getElem hj
      by_cases h2 : j ≤ k
      · have ejk : j = k := by omega
        subst ejk
        rw [decide_eq_true h2] at Rj
        obtain ⟨v, ev'⟩ := Option.isSome_iff_exists.mp Rj
        unfold kstep
        rw [ev', et]
        show (!(match some v, cheap r row (L1 t[j]) with | some v, some c => [v + c] | _, _ => []).isEmpty) = decide (j + 1 ≤ if (cheap r row (L1 t[j])).isSome = true then j + 1 else j)
        cases cheap r row (L1 t[j]) with
        | none => simp
        | some c => simp
      · rw [decide_eq_false h2] at Rj
        have ev' : g j = none := by
          cases e : g j with
          | none => rfl
          | some v => rw [e] at Rj; cases Rj
        rw [ev']
        have hk : kstep r t k row ≤ k + 1 := by
          unfold kstep
          split
          · split <;> omega
          · omega
        rw [decide_eq_false (by omega)]
        rfl
theorem relK (rows : List Str) : RelK t (gF r t rows) (kF r t rows) := by
  suffices ∀ (rows : List Str) (g : Nat → Option Int) (k : Nat), RelK t g k → RelK t (rows.foldl (gstep r t) g) (rows.foldl (kstep r t) k) from
    this rows _ _ ⟨Nat.zero_le _, fun m hm => by
      unfold gbase
      by_cases h : m = 0
      · rw [if_pos h, decide_eq_true (by omega)]; rfl
      · rw [if_neg h, decide_eq_false (by omega)]; rfl⟩
  intro rows
  induction rows with
  | nil => exact fun g k R => R
  | cons a l ih => exact fun g k R => ih _ _ (relK_step R)
/-- just where no way reads it -/
theorem barred_iff (rows : List Str) : kF r t rows < t.length ↔ gF r t rows t.length = none := by
  have R := (relK (r := r) (t := t) rows).2 t.length (Nat.le_refl _)
  have h := kF_le r t rows
  constructor
  · intro z
    rw [decide_eq_false (by omega)] at R
    cases e : gF r t rows t.length with
    | none => rfl
    | some v => rw [e] at R; cases R
  · intro z
    rw [z] at R
    have : ¬ t.length ≤ kF r t rows := fun q => by rw [decide_eq_true q] at R; cases R
    omega
end
end M
set_option Elab.async false
set_option linter.all false
set_option maxRecDepth 100000
set_option maxHeartbeats 4000000
/-! The tape found backwards. -/
namespace M
open PySem PySem.Spec PyProof.Rows L2 Dl
/-- what the first k turns have found, from the end: at row a = n - k, letter m -/
structure Back (r : Rdr) (w : Nat) (tape : List Str) (t : List Nat) (k : Nat) (fs : List Str) (m : Nat) : Prop where
  len : fs.length = k
  km : k ≤ tape.length
  ml : m ≤ t.length
  small : hF r t (tape.take (tape.length - k)) m < 1000
  ins : ∀ x ∈ fs, x ∈ rowsS w
  over : ((tape.drop (tape.length - k)).zip fs.reverse).all (fun p => goes p.1 p.2) = true
  text : (fs.reverse.map (mean r)).flatMap (fun z => z.cps.toList) = t.drop m
  sum : ((((tape.drop (tape.length - k)).zip fs.reverse).map fun p => cost p.1 p.2)).sum = hF r t tape t.length - hF r t (tape.take (tape.length - k)) m
section
variable {r : Rdr} {w : Nat} {tape : List Str} {t : List Nat}
theorem back_zero (h : hF r t tape t.length < 1000) : Back r w tape t 0 [] t.length := by
  refine ⟨rfl, Nat.zero_le _, Nat.le_refl _, ?_, fun x hx => (nomatch hx), ?_, ?_, ?_⟩
  · rw [Nat.sub_zero, List.take_length]; exact h
  · rw [Nat.sub_zero, List.drop_length]; rfl
  · rw [List.drop_length]; rfl
  · rw [Nat.sub_zero, List.drop_length, List.take_length]
    show (0 : Int) = _
    omega
/-- one turn back: row a, the row o found, letters m' = m or m - 1 -/
theorem back_step {k a : Nat} {fs : List Str} {m m' : Nat} {row o : Str} (B : Back r w tape t k fs m) (ha : a + k + 1 = tape.length) (hr : tape[a]? = some row) (ho : o ∈ rowsS w) (hg : goes row o = true)
    (ht : (mean r o).cps.toList ++ t.drop m = t.drop m') (hm : m' ≤ t.length) (hs : hF r t (tape.take a) m' < 1000) (hc : hF r t (tape.take a) m' + cost row o = hF r t (tape.take (a + 1)) m) : Back r w tape t (k + 1) (fs ++ [o]) m' := by
  have e1 : tape.length - (k + 1) = a := by omega
  have e2 : tape.length - k = a + 1 := by omega
  have ed : tape.drop a = row :: tape.drop (a + 1) := by
    have hl : a < tape.length := by omega
    rw [List.drop_eq_getElem_cons hl]
    rw [List.getElem?_eq_getElem hl] at hr
    cases hr
    rfl
  have er : (fs ++ [o]).reverse = o :: fs.reverse := by rw [List.reverse_append]; rfl
  obtain ⟨b1, b2, b3, b4, b5, b6, b7, b8⟩ := B
  rw [e2] at b4 b6 b8
  refine ⟨by rw [List.length_append, b1]; rfl, by omega, hm, by rw [e1]; exact hs, fun x hx => ?_, ?_, ?_, ?_⟩
  · rcases List.mem_append.mp hx with h | h
    · exact b5 x h
    · rw [List.mem_singleton.mp h]; exact ho
  · rw [e1, ed, er, List.zip_cons_cons, List.all_cons, b6, hg]; rfl
  · rw [er, List.map_cons, List.flatMap_cons, b7, ht]
  · rw [e1, ed, er, List.zip_cons_cons, List.map_cons, List.sum_cons, b8]
    show cost row o + (hF r t tape t.length - hF r t (tape.take (a + 1)) m) = hF r t tape t.length - hF r t (tape.take a) m'
    omega
end
end M
set_option Elab.async false
set_option linter.all false
set_option maxRecDepth 100000
set_option maxHeartbeats 4000000
/-! What is told, and its own word. -/
namespace M
open PySem PySem.Spec PyProof.Rows L2 Dl
theorem joinL_nil : ∀ ys : List (List Nat), TL.joinL [] ys = ys.flatten
  | [] => rfl
  | [y] => by simp [TL.joinL]
  | y :: z :: r => by
    have ih := joinL_nil (z :: r)
    show y ++ ([] ++ TL.joinL [] (z :: r)) = _
    rw [ih]
    simp
theorem join_cps (l : List Str) : (Txt.join "" l).cps.toList = l.flatMap (fun z => z.cps.toList) := by
  have e : l = (l.map fun z => z.cps.toList).map SX.S := by
    rw [List.map_map]
    exact (List.map_id' l).symm.trans (List.map_congr_left fun z _ => (SX.S_tl z).symm)
  have h := SX.join_S [] (l.map fun z => z.cps.toList)
  rw [← e, joinL_nil] at h
  have e0 : (SX.S [] : Str) = "" := rfl
  rw [e0] at h
  rw [h, List.flatMap_def]
/-- a tape that it can become, that reads the text, by as few holes as told -/
structure Right (r : Rdr) (w : Nat) (tape : List Str) (t : List Nat) (ts : List Str) : Prop where
  len : ts.length = tape.length
  ins : ∀ x ∈ ts, x ∈ rowsS w
  over : (tape.zip ts).all (fun p => goes p.1 p.2) = true
  text : (ts.map (mean r)).flatMap (fun z => z.cps.toList) = t
  sum : takn tape ts = hF r t tape t.length
theorem Right.of {r : Rdr} {w : Nat} {tape : List Str} {t : List Nat} {fs : List Str} (B : Back r w tape t tape.length fs 0) : Right r w tape t fs.reverse := by
  obtain ⟨b1, b2, b3, b4, b5, b6, b7, b8⟩ := B
  rw [Nat.sub_self] at b6 b8
  refine ⟨by rw [List.length_reverse, b1], fun x hx => b5 x (List.mem_reverse.mp hx), b6, b7, ?_⟩
  have e : hF r t (tape.take 0) 0 = 0 := rfl
  rw [e] at b8
  show ((tape.zip fs.reverse).map fun p => cost p.1 p.2).sum = _
  have b8 : ((tape.zip fs.reverse).map fun p => cost p.1 p.2).sum = hF r t tape t.length - 0 := b8
  omega
theorem Right.reads {r : Rdr} {w : Nat} {tape : List Str} {z : Str} {ts : List Str} (R : Right r w tape z.cps.toList ts) : reads r ts = z := by
  refine str_ext ?_
  unfold M.reads
  rw [join_cps, R.text]
theorem Right.ovr {r : Rdr} {w : Nat} {tape : List Str} {t : List Nat} {ts : List Str} (R : Right r w tape t ts) : ovr tape ts = true := by
  unfold M.ovr
  rw [R.over, R.len, beq_self_eq_true]
  rfl
theorem step_le (r : Rdr) (t : List Nat) (f : Nat → Int) (row : Str) (m : Nat) : stepF r t f row m ≤ f m + rub r row := by
  cases m with
  | zero => exact Int.le_refl _
  | succ m =>
    show (match (t[m]?).bind fun c => cheap r row (L1 c) with | none => f (m + 1) + rub r row | some c => min (f (m + 1) + rub r row) (f m + c)) ≤ _
    split
    · exact Int.le_refl _
    · exact Int.min_le_left _ _
theorem step_le2 {r : Rdr} {t : List Nat} (f : Nat → Int) {row : Str} {m c : Nat} {v : Int} (hc : t[m]? = some c) (hv : cheap r row (L1 c) = some v) : stepF r t f row (m + 1) ≤ f m + v := by
  show (match (t[m]?).bind fun c => cheap r row (L1 c) with | none => f (m + 1) + rub r row | some c => min (f (m + 1) + rub r row) (f m + c)) ≤ _
  rw [hc]
  show (match cheap r row (L1 c) with | none => f (m + 1) + rub r row | some c => min (f (m + 1) + rub r row) (f m + c)) ≤ _
  rw [hv]
  exact Int.min_le_right _ _
theorem hF_zero (r : Rdr) (t : List Nat) : hF r t [] 0 = 0 := rfl
end M
set_option Elab.async false
set_option linter.all false
set_option maxRecDepth 100000
set_option maxHeartbeats 4000000
/-! The law's own rows, prices. -/
namespace M
open PySem PySem.Spec PyProof.Rows L2 Dl
def lovr (a b : Str) : Bool := a.length == b.length && (a.cps.toList.zip b.cps.toList).all fun p => L1 p.1 == "." || L1 p.2 == "o"
def holes (row : Str) : Int := ((row.cps.toList.filter fun c => L1 c == ("o" : Str)).length : Nat)
def holesT (tape : List Str) : Int := (tape.map holes).sum
def bitS (w n : Nat) : Str := Txt.join "" ((List.range w).map fun (i : Nat) => if (Builtin.bitAnd ((n : Int) / 2 ^ ((w : Int) - 1 - (i : Int)).toNat) 1 == 1) = true then ("o" : Str) else ".")
theorem bits_rows : ∀ w, w < 5 → (List.range (2 ^ w)).map (bitS w) = rowsS w := by decide +kernel
theorem lovr_rows : ∀ w, w < 5 → ∀ a ∈ rowsS w, ∀ b ∈ rowsS w, lovr a b = goes a b := by decide +kernel
theorem holes_rows : ∀ w, w < 5 → ∀ a ∈ rowsS w, ∀ b ∈ rowsS w, holes b - holes a = cost a b := by decide +kernel
theorem holes_tape {w : Nat} (hw : w < 5) : ∀ (a b : List Str), a.length = b.length → (∀ x ∈ a, x ∈ rowsS w) → (∀ x ∈ b, x ∈ rowsS w) → holesT b - holesT a = takn a b
  | [], [], _, _, _ => rfl
  | x :: a, y :: b, h, ha, hb => by
    have ih := holes_tape hw a b (by simpa using h) (fun z hz => ha z (List.mem_cons_of_mem _ hz)) (fun z hz => hb z (List.mem_cons_of_mem _ hz))
    have h1 := holes_rows w hw x (ha x (List.mem_cons_self ..)) y (hb y (List.mem_cons_self ..))
    unfold holesT takn at ih ⊢
    rw [List.zip_cons_cons, List.map_cons, List.map_cons, List.map_cons, List.sum_cons, List.sum_cons, List.sum_cons]
    show _ = cost x y + _
    omega
theorem can_ovr {w : Nat} (hw : w < 5) (a b : List Str) (ha : ∀ x ∈ a, x ∈ rowsS w) (hb : ∀ x ∈ b, x ∈ rowsS w) : (a.length == b.length && (a.zip b).all fun p => lovr p.1 p.2) = ovr a b := by
  unfold ovr
  congr 1
  have : ∀ l : List (Str × Str), (∀ p ∈ l, p.1 ∈ rowsS w ∧ p.2 ∈ rowsS w) → (l.all fun p => lovr p.1 p.2) = l.all fun p => goes p.1 p.2 := by
    intro l
    induction l with
    | nil => intro _; rfl
    | cons p l ih =>
      intro h
      obtain ⟨h1, h2⟩ := h p (List.mem_cons_self ..)
      rw [List.all_cons, List.all_cons, ih (fun q hq => h q (List.mem_cons_of_mem _ hq)), lovr_rows w hw _ h1 _ h2]
  exact this _ fun p hp => ⟨ha _ (List.of_mem_zip hp).1, hb _ (List.of_mem_zip hp).2⟩
end M
set_option Elab.async false
set_option linter.all false
set_option maxRecDepth 100000
set_option maxHeartbeats 4000000
/-! The readings of k02's defs, first part. -/
namespace R2
open PySem PySem.Spec PyProof.Rows L2 Dl M W02
/-! ### promises -/
def f_is_row : DF := fun ds P => ∃ (z : Str) (n : Int), ds = [.str z, .int n] ∧ z.length ≤ 100000 ∧ P (.bl (isRow z n))
def f_is_letter : DF := fun ds P => ∃ c : Nat, ds = [.str (L1 c)] ∧ P (.bl (decide (c ∈ letters)))
def f_width_of : DF := fun ds P => ∃ (r : Rdr) (w : Nat), Good r w ∧ ds = [rD r] ∧ P (.int w)
def f_check_tape : DF := fun ds P => ∃ (w : Nat) (tape : List Str), w < 5 ∧ TapeIn w tape ∧ ds = [.int w, sD tape] ∧ P .non
def f_check_text : DF := fun ds P => ∃ z : Str, TextIn z ∧ ds = [.str z] ∧ P .non
def f_goes_over : DF := fun ds P => ∃ a b : Str, ds = [.str a, .str b] ∧ a.length ≤ 100000 ∧ P (.bl (goes a b))
def f_cost_of : DF := fun ds P => ∃ a b : Str, ds = [.str a, .str b] ∧ P (.int (cost a b))
def f_rows_of : DF := fun ds P => ∃ w : Nat, w < 5 ∧ ds = [.int w] ∧ P (sD (rowsS w))
def f_above : DF := fun ds P => ∃ row : Str, row.length < 5 ∧ ds = [.str row] ∧ P (sD (abv row))
def f_meaning : DF := fun ds P => ∃ (r : Rdr) (row : Str), ds = [rD r, .str row] ∧ P (.str (mean r row))
def f_text_of : DF := fun ds P => ∃ (r : Rdr) (w : Nat) (tape : List Str), Good r w ∧ tape.length ≤ 1000 ∧ ds = [rD r, sD tape] ∧ P (.str (reads r tape))
def f_over : DF := fun ds P => ∃ a b : List Str, a.length ≤ 1000 ∧ (∀ x ∈ a, x.length ≤ 100000) ∧ ds = [sD a, sD b] ∧ P (.bl (ovr a b))
def f_taken : DF := fun ds P => ∃ a b : List Str, a.length ≤ 1000 ∧ ds = [sD a, sD b] ∧ P (.int (takn a b))
def f_cheapest : DF := fun ds P => ∃ (r : Rdr) (row l : Str), row.length < 5 ∧ ds = [rD r, .str row, .str l] ∧ P (optD (cheap r row l))
def f_are_tape : DF := fun ds P => ∃ (r : Rdr) (w : Nat) (tape : List Str), Good r w ∧ tape.length ≤ 1000 ∧ (∀ row ∈ tape, row.length ≤ 100000) ∧ ds = [rD r, sD tape] ∧ P (.bl (tape.all fun row => isRow row w))
def f_holds : DF := fun ds P => ∃ (a b : Int) (c : Option Int), ds = [.int a, .int b, optD c] ∧ P (.bl (hld a b c))
/-! ### readings -/
theorem p_is_row : ∀ ds P, f_is_row ds P → runD n_is_row t_is_row ds P := fun ds P h => by
  obtain ⟨z, n, rfl, hz, h⟩ := h
  refine gv_and (a := true) (fun Q q => q) (fun _ => gv_and (a := decide ((z.length : Int) = n)) (fun Q q => ⟨hz, q⟩) (fun _ => ?_)) _ h
  intro Q q
  refine ⟨by rw [signs_len]; exact hz, ?_⟩
  rw [signs_map]
  refine lc_map _ (fun c : Nat => D.bl (inV (.str (L1 c)) [.str "o", .str "."])) _ _ (fun p hp Y hY => ⟨rfl, by show 2 ≤ sizeLine; decide, hY⟩) ?_
  show match blsD _ with | some ns => _ | none => _
  rw [blsD_map]
  have e : ((z.cps.toList.map fun c => inV (V.str (L1 c)) [.str "o", .str "."]).all id) = z.cps.toList.all fun c => L1 c == ("o" : Str) || L1 c == (".":Str) := by
    rw [List.all_map]
    congr 1
    funext c
    show ((("o" : Str) == L1 c) || ((".":Str) == L1 c || false)) = _
    rw [Bool.or_false, Bool.beq_comm, Bool.beq_comm (a := (".":Str))]
  show Q (.im (.bl _))
  rw [e]
  exact q
theorem p_is_letter : ∀ ds P, f_is_letter ds P → runD n_is_letter t_is_letter ds P := fun ds P h => by
  obtain ⟨c, rfl, h⟩ := h
  refine ⟨by show (1 : Nat) ≤ 100000; decide, ?_⟩
  show P (.bl (decide (c ∈ k_LETTERS.cps.toList)))
  unfold k_LETTERS
  rw [lets_eq]
  exact h
theorem items_rD (r : Rdr) : itemsD (ksR r) (dsR r) = r.map fun p => D.tup [.str p.1, .str p.2] := by
  unfold itemsD ksR dsR
  rw [List.zip_map', List.map_map]
  rfl
theorem p_width_of : ∀ ds P, f_width_of ds P → runD n_width_of (t_width_of f_is_row f_is_letter) ds P := fun ds P h => by
  obtain ⟨r, w, g, rfl, h⟩ := h
  refine seq_guard (a := (!true || (ksR r).isEmpty)) (gv_orT (gv_notT (gv_test fun Q q => q)) fun _ => gv_test fun Q q => q) ?_ ?_
  · have : r ≠ [] := g.ne
    cases r with
    | nil => exact absurd rfl this
    | cons a b => rfl
  · obtain ⟨p, r', rfl⟩ : ∃ p r', r = p :: r' := by
      cases r with
      | nil => exact absurd rfl g.ne
      | cons a b => exact ⟨a, b, rfl⟩
    have hp := g.rows p (List.mem_cons_self ..)
    have hw := rows_isRow w (by have := g.w4; omega) p.1 hp.1
    refine seq_set (d := .str p.1) ?_ ?_
    · exact gv_ixL (.nw (.lst ((ksR (p :: r')).map keyV))) (i := 0) (fun Q q => q) rfl (fun Q q => q) (d := .str p.1) (atI_zero _ _)
    refine seq_set (d := .int w) ?_ ?_
    · intro Q q
      refine ife_of (a := true) (gv_test fun Q q => q) (fun _ => ⟨by have := g.w4; omega, ?_⟩) (fun e => by cases e)
      rw [hw.2]
      exact q
    refine ⟨?_, rfl, ?_⟩
    · unfold dsR
      rw [List.all_map]
      exact List.all_eq_true.mpr fun _ _ => rfl
    rw [items_rD]
    refine for_inv' _ (fun dn ρ => ∃ a b : Option L, ρ = [none, some (.im (.str p.1)), some (.im (.int w)), a, b] ∧ flatEnv ρ = true) (p :: r') _ ⟨none, none, rfl, rfl⟩ (fun dn x rs e ρ hI => ?_) (fun ρ hI => ?_)
    · obtain ⟨a, b, rfl, fl⟩ := hI
      have hx : x ∈ p :: r' := by
        rw [show p :: r' = dn ++ x :: rs from e]
        simp
      obtain ⟨hx1, hx2⟩ := g.rows x hx
      obtain ⟨c, hc1, hc2⟩ := g.lets x hx
      have hw' := rows_isRow w (by have := g.w4; omega) x.1 hx1
      refine ⟨_, fun N h => h, fun N hN => ?_⟩
      refine if_of (a := (!((decide ((1 : Int) ≤ (w : Int))) && decide ((w : Int) ≤ 4)) || (!(isRow x.1 w) || (!(decide (46 ∈ x.1.cps.toList)) || !(decide (c ∈ letters))))))
        (gv_orT (gv_notT (gv_test ?_)) fun _ => gv_orT (gv_notT (gv_test fun Q q => ⟨rfl, rfl, x.1, w, rfl, by rw [hw'.2]; have := g.w4; omega, q⟩)) fun _ => gv_orT (gv_test fun Q q => q) fun _ => gv_notT (gv_test fun Q q => ⟨rfl, rfl, c, by rw [← hc1]; rfl, q⟩)) (fun e => ?_) (fun _ => ?_)
      · intro Q q
        rw [decide_eq_true (by have := g.w1; omega : (1 : Int) ≤ (w : Int)), Bool.true_and] at q
        show match R.im (D.bl (decide ((1 : Int) ≤ (w : Int)))) with | .im (.bl true) => _ | .im (.bl false) => _ | _ => _
        rw [decide_eq_true (by have := g.w1; omega : (1 : Int) ≤ (w : Int))]
        exact q
      · exfalso
        have h1 := g.w1
        have h4 := g.w4
        rw [hw'.1, decide_eq_true hx2, decide_eq_true hc2, decide_eq_true (by omega : (1 : Int) ≤ (w : Int)), decide_eq_true (by omega : (w : Int) ≤ 4)] at e
        cases e
      · exact hN _ ⟨_, _, rfl, rfl⟩
    · obtain ⟨a, b, rfl, fl⟩ := hI
      exact ⟨fl, h⟩
theorem p_cost_of : ∀ ds P, f_cost_of ds P → runD n_cost_of t_cost_of ds P := fun ds P h => by
  obtain ⟨a, b, rfl, h⟩ := h
  exact h
theorem p_meaning : ∀ ds P, f_meaning ds P → runD n_meaning t_meaning ds P := fun ds P h => by
  obtain ⟨r, row, rfl, h⟩ := h
  show P ((getDs _ _ (Sum.inr row)).getD (.str ""))
  rw [get_rD]
  unfold mean at h
  cases e : r.find? fun p => decide (p.1 = row) with
  | none => rw [e] at h; exact h
  | some p => rw [e] at h; exact h
theorem p_goes_over : ∀ ds P, f_goes_over ds P → runD n_goes_over t_goes_over ds P := fun ds P h => by
  obtain ⟨a, b, rfl, ha, h⟩ := h
  refine ⟨?_, ?_⟩
  · rw [pairsD_len, signs_len, signs_len]
    have : a.length = a.cps.size := rfl
    omega
  · rw [signs_map, signs_map, pairs_map]
    refine lc_map' _ (fun p : Nat × Nat => D.bl (L1 p.1 == "o" && L1 p.2 == ".")) _ _ _ (fun _ _ N h => h) (fun p hp Y hY => gv_and (fun Q q => q) (fun _ Q q => q) _ hY) ?_
    show match blsD _ with | some ns => _ | none => _
    rw [blsD_map]
    show P (.bl (!((a.cps.toList.zip b.cps.toList).map fun p : Nat × Nat => L1 p.1 == ("o" : Str) && L1 p.2 == (".": Str)).any id))
    rw [List.any_map]
    exact h
theorem tape_isRow {w : Nat} {tape : List Str} (hw : w < 5) (h : TapeIn w tape) : ∀ row ∈ tape, isRow row w = true ∧ row.length = w := fun row hr => rows_isRow w hw row (h.1 row hr)
theorem p_check_tape : ∀ ds P, f_check_tape ds P → runD n_check_tape (t_check_tape f_is_row) ds P := fun ds P h => by
  obtain ⟨w, tape, hw, ht, rfl, h⟩ := h
  refine seq_guard (a := !true) (gv_notT (gv_test fun Q q => q)) rfl ?_
  show forRun _ _ _ (enumD (tape.map D.str)) _
  rw [enum_map]
  refine for_inv' _ (fun dn ρ => ∃ a b : Option L, ρ = [some (.im (.int w)), some (.im (sD tape)), a, b]) _ _ ⟨none, none, rfl⟩ (fun dn x rs e ρ hI => ?_) (fun ρ hI => ?_)
  · obtain ⟨a, b, rfl⟩ := hI
    obtain ⟨row, i⟩ := x
    have e : tape.zipIdx = dn ++ (row, i) :: rs := e
    have hm : (row, i) ∈ tape.zipIdx := by rw [e]; simp
    have hg := List.mk_mem_zipIdx_iff_getElem?.mp hm
    have hi : i < tape.length := (List.getElem?_eq_some_iff.mp hg).1
    have hr := tape_isRow hw ht row (List.mem_of_getElem? hg)
    have hl := ht.2
    refine ⟨_, fun N h => h, fun N hN => ?_⟩
    refine if_of (a := (((i : Int) == 30) || !(isRow row w))) ?_ (fun e => ?_) (fun _ => ?_)
    · exact gv_orT (gv_test fun Q q => q) fun _ => gv_notT (gv_test fun Q q => ⟨rfl, rfl, row, w, rfl, by rw [hr.2]; omega, q⟩)
    · exfalso
      rw [hr.1, Bool.not_true, Bool.or_false, beq_iff_eq] at e
      omega
    · exact hN _ ⟨_, _, rfl⟩
  · obtain ⟨a, b, rfl⟩ := hI
    exact h
theorem p_check_text : ∀ ds P, f_check_text ds P → runD n_check_text t_check_text ds P := fun ds P h => by
  obtain ⟨z, hz, rfl, h⟩ := h
  refine seq_guard (a := !true) (gv_notT (gv_test fun Q q => q)) rfl ?_
  show forRun _ _ _ (enumD (signs z)) _
  rw [signs_map, enum_map]
  refine for_inv' _ (fun dn ρ => ∃ a b : Option L, ρ = [some (.im (.str z)), a, b]) _ _ ⟨none, none, rfl⟩ (fun dn x rs e ρ hI => ?_) (fun ρ hI => ?_)
  · obtain ⟨a, b, rfl⟩ := hI
    obtain ⟨c, i⟩ := x
    have e : z.cps.toList.zipIdx = dn ++ (c, i) :: rs := e
    have hm : (c, i) ∈ z.cps.toList.zipIdx := by rw [e]; simp
    have hg := List.mk_mem_zipIdx_iff_getElem?.mp hm
    have hi : i < z.cps.toList.length := (List.getElem?_eq_some_iff.mp hg).1
    have hi' : i < z.length := by rw [Array.length_toList] at hi; exact hi
    have hl := hz.2
    have hc := hz.1 c (List.mem_of_getElem? hg)
    refine ⟨_, fun N h => h, fun N hN => ?_⟩
    refine if_of (a := (((i : Int) == 30) || !(decide (c ∈ k_LETTERS.cps.toList)))) ?_ (fun e => ?_) (fun _ => ?_)
    · exact gv_orT (gv_test fun Q q => q) fun _ => gv_test fun Q q => q
    · exfalso
      unfold k_LETTERS at e
      rw [lets_eq, decide_eq_true hc, Bool.not_true, Bool.or_false, beq_iff_eq] at e
      omega
    · exact hN _ ⟨_, _, rfl⟩
  · obtain ⟨a, b, rfl⟩ := hI
    exact h
theorem dbl_lc (s : List Str) : s.map (fun x => D.str (x ++ (".":Str))) ++ s.map (fun x => D.str (x ++ ("o":Str))) = (dbl s).map D.str := by
  unfold dbl
  rw [List.map_append, List.map_map, List.map_map]
  rfl
theorem p_rows_of : ∀ ds P, f_rows_of ds P → runD n_rows_of t_rows_of ds P := fun ds P h => by
  obtain ⟨w, hw, rfl, h⟩ := h
  have len : ∀ k, k < 5 → (dblN k).length ≤ 16 ∧ ∀ x ∈ dblN k, x.length ≤ 16 := by decide +kernel
  show _ ∧ _
  refine ⟨rfl, by show 1 ≤ sizeLine; decide, ?_⟩
  refine ⟨by omega, by omega, ?_⟩
  rw [Int.toNat_natCast]
  unfold rangeD
  refine for_inv' _ (fun dn ρ => ∃ a b : Option L, ρ = [some (.im (.int w)), some (.im (sD (dblN dn.length))), a, b]) _ _ ⟨none, none, rfl⟩ (fun dn x rs e ρ hI => ?_) (fun ρ hI => ?_)
  · obtain ⟨a, b, rfl⟩ := hI
    have hl : dn.length < w := by
      have := congrArg List.length e
      simp at this
      omega
    have h16 := len dn.length (by omega)
    refine ⟨_, fun N h => h, fun N hN => ?_⟩
    refine ⟨by rw [List.length_map]; exact Nat.le_trans h16.1 (by decide), ?_⟩
    refine lc_map' _ (fun x => D.str (x ++ (".":Str))) _ _ _ (fun _ _ N h => h) (fun x hx Y hY => ⟨Nat.le_trans (Nat.add_le_add_right (h16.2 x hx) 1) (by decide), hY⟩) ?_
    refine ⟨by rw [List.length_map]; exact Nat.le_trans h16.1 (by decide), ?_⟩
    refine lc_map' _ (fun x => D.str (x ++ ("o":Str))) _ _ _ (fun _ _ N h => h) (fun x hx Y hY => ⟨Nat.le_trans (Nat.add_le_add_right (h16.2 x hx) 1) (by decide), hY⟩) ?_
    refine ⟨by rw [List.length_map, List.length_map]; have := h16.1; omega, ?_⟩
    refine hN _ ⟨some (.im (.int (0 + (x : Int)))), b, ?_⟩
    rw [dbl_lc, List.length_append]
    rfl
  · obtain ⟨a, b, rfl⟩ := hI
    rw [List.length_range]
    obtain ⟨h1, h2, h3⟩ := dbl_rows w hw
    show match strsD ((dblN w).map D.str) with | some xs => _ | none => _
    rw [strsD_sD]
    refine ⟨h3, fun ys hp hs => ?_⟩
    rw [sorted_unique (hp.trans h1) hs h2]
    exact h
theorem p_above : ∀ ds P, f_above ds P → runD n_above (t_above f_rows_of f_goes_over) ds P := fun ds P h => by
  obtain ⟨row, hr, rfl, h⟩ := h
  have len : ∀ k, k < 5 → (rowsS k).length ≤ 16 := by decide +kernel
  refine ⟨by omega, ?_⟩
  refine ⟨rfl, rfl, row.length, hr, rfl, ?_⟩
  refine ⟨by rw [List.length_map]; have := len _ hr; omega, ?_⟩
  refine lc_if' _ (fun o => goes row o) (fun o => D.str o) _ _ _ (fun _ _ N h => h) (fun x hx => gv_test fun Q q => ?_) (fun x hx _ Y hY => hY) h
  exact ⟨rfl, rfl, row, x, rfl, by omega, q⟩
theorem p_text_of : ∀ ds P, f_text_of ds P → runD n_text_of (t_text_of f_meaning) ds P := fun ds P h => by
  obtain ⟨r, w, tape, g, ht, rfl, h⟩ := h
  refine ⟨by rw [List.length_map]; omega, ?_⟩
  refine lc_map' _ (fun row => D.str (mean r row)) _ _ _ (fun _ _ N h => h) (fun x hx Y hY => ⟨rfl, rfl, r, x, rfl, hY⟩) ?_
  show match strsD _ with | some ys => _ | none => _
  rw [strsD_map]
  refine ⟨?_, h⟩
  have e : ∀ l : List Str, ((l.map (mean r)).map (·.length)).sum ≤ l.length := by
    intro l
    induction l with
    | nil => exact Nat.le_refl _
    | cons a l ih =>
      simp only [List.map_cons, List.sum_cons, List.length_cons]
      have := mean_len g a
      omega
  have := e tape
  show ((tape.map (mean r)).map (·.length)).sum + (tape.map (mean r)).length * 0 ≤ 16777216
  omega
theorem p_over : ∀ ds P, f_over ds P → runD n_over (t_over f_goes_over) ds P := fun ds P h => by
  obtain ⟨a, b, ha, hx, rfl, h⟩ := h
  unfold ovr at h
  refine gv_and (a := a.length == b.length) (fun Q q => ?_) (fun _ Q q => ?_) _ h
  · show Q (.im (.bl (((a.map D.str).length : Int) == ((b.map D.str).length : Int))))
    rw [List.length_map, List.length_map]
    have e : ((a.length : Int) == (b.length : Int)) = (a.length == b.length) := by
      by_cases e : a.length = b.length
      · rw [e, beq_self_eq_true, beq_self_eq_true]
      · rw [beq_eq_false_iff_ne.mpr e, beq_eq_false_iff_ne.mpr (fun z => e (by omega))]
    rw [e]
    exact q
  · show _ ∧ _
    refine ⟨by rw [pairsD_len, List.length_map, List.length_map]; omega, ?_⟩
    rw [pairs_map]
    refine lc_map' _ (fun p : Str × Str => D.bl (goes p.1 p.2)) _ _ _ (fun _ _ N h => h) (fun p hp Y hY => ⟨rfl, rfl, p.1, p.2, rfl, hx p.1 (List.of_mem_zip hp).1, hY⟩) ?_
    show match blsD _ with | some ns => _ | none => _
    rw [blsD_map]
    show Q (.im (.bl (((a.zip b).map fun p => goes p.1 p.2).all id)))
    rw [List.all_map]
    exact q
theorem p_taken : ∀ ds P, f_taken ds P → runD n_taken (t_taken f_cost_of) ds P := fun ds P h => by
  obtain ⟨a, b, ha, rfl, h⟩ := h
  show _ ∧ _
  refine ⟨by rw [pairsD_len, List.length_map, List.length_map]; omega, ?_⟩
  rw [pairs_map]
  refine lc_map' _ (fun p : Str × Str => D.int (cost p.1 p.2)) _ _ _ (fun _ _ N h => h) (fun p hp Y hY => ⟨rfl, rfl, p.1, p.2, rfl, hY⟩) ?_
  show match intsD _ with | some ns => _ | none => _
  rw [intsD_map]
  exact h
theorem rows_len : ∀ k, k < 5 → (rowsS k).length ≤ 16 := by decide +kernel
theorem p_cheapest : ∀ ds P, f_cheapest ds P → runD n_cheapest (t_cheapest f_above f_meaning f_cost_of) ds P := fun ds P h => by
  obtain ⟨r, row, l, hr, rfl, h⟩ := h
  have hl : (abv row).length ≤ 16 := Nat.le_trans (List.length_filter_le _ _) (rows_len _ hr)
  show _ ∧ _
  refine ⟨rfl, rfl, row, hr, rfl, ?_⟩
  refine ⟨by rw [List.length_map]; omega, ?_⟩
  refine lc_if' _ (fun o => mean r o == l) (fun o => D.int (cost row o)) _ _ _ (fun _ _ N h => h) (fun x hx => gv_test fun Q q => ?_) (fun x hx _ Y hY => ?_) ?_
  · exact ⟨rfl, rfl, r, x, rfl, q⟩
  · exact ⟨rfl, rfl, row, x, rfl, hY⟩
  · show match intsD _ with | some ns => _ | none => _
    rw [intsD_map]
    show P (leastD _ .non)
    rw [leastD_opt]
    exact h
theorem p_are_tape : ∀ ds P, f_are_tape ds P → runD n_are_tape (t_are_tape f_width_of f_is_row) ds P := fun ds P h => by
  obtain ⟨r, w, tape, g, ht, hx, rfl, h⟩ := h
  refine ⟨rfl, rfl, r, w, g, rfl, ?_⟩
  refine ⟨by rw [List.length_map]; omega, ?_⟩
  refine lc_map' _ (fun row => D.bl (isRow row w)) _ _ _ (fun _ _ N h => h) (fun x hm Y hY => ⟨rfl, rfl, x, w, rfl, hx x hm, hY⟩) ?_
  show match blsD _ with | some ns => _ | none => _
  rw [blsD_map]
  show P (.bl ((tape.map fun row => isRow row w).all id))
  rw [List.all_map]
  exact h
theorem p_holds : ∀ ds P, f_holds ds P → runD n_holds t_holds ds P := fun ds P h => by
  obtain ⟨a, b, c, rfl, h⟩ := h
  cases c with
  | none => exact h
  | some c => exact h
end R2
set_option Elab.async false
set_option linter.all false
set_option maxRecDepth 100000
set_option maxHeartbeats 4000000
/-! The readings of k02's defs, second part: writing. -/
namespace R2
open PySem PySem.Spec PyProof.Rows L2 Dl M W02
abbrev tl (z : Str) : List Nat := z.cps.toList
def f_marks_of : DF := fun ds P => ∃ (r : Rdr) (w : Nat) (tape : List Str) (z : Str), Good r w ∧ TapeIn w tape ∧ TextIn z ∧ ds = [rD r, sD tape, .str z] ∧ P (iD (marksL r (tl z) tape))
def f_heights_of : DF := fun ds P => ∃ (r : Rdr) (w : Nat) (tape : List Str) (z : Str), Good r w ∧ TapeIn w tape ∧ TextIn z ∧ ds = [rD r, sD tape, .str z] ∧ P (iiD (highL r (tl z) tape))
def f_first_row : DF := fun ds P => ∃ (r : Rdr) (row l : Str) (c : Int), row.length < 5 ∧ ds = [rD r, .str row, .str l, .int c] ∧ (∃ o ∈ rowsS row.length, goes row o = true ∧ mean r o = l ∧ cost row o = c) ∧
  ∀ o ∈ rowsS row.length, goes row o = true → mean r o = l → cost row o = c → P (.str o)
def f_check_all : DF := fun ds P => ∃ (r : Rdr) (w : Nat) (tape : List Str) (z : Str), Good r w ∧ TapeIn w tape ∧ TextIn z ∧ ds = [rD r, sD tape, .str z] ∧ P .non
theorem p_check_all : ∀ ds P, f_check_all ds P → runD n_check_all (t_check_all f_check_tape f_width_of f_check_text) ds P := fun ds P h => by
  obtain ⟨r, w, tape, z, g, ht, hz, rfl, h⟩ := h
  refine ⟨rfl, rfl, r, w, g, rfl, ?_⟩
  refine ⟨rfl, rfl, w, tape, by have := g.w4; omega, ht, rfl, ?_⟩
  exact ⟨rfl, rfl, z, hz, rfl, h⟩
theorem p_first_row : ∀ ds P, f_first_row ds P → runD n_first_row (t_first_row f_above f_meaning f_cost_of) ds P := fun ds P h => by
  obtain ⟨r, row, l, c, hr, rfl, ⟨o0, ho0, g0, m0, c0⟩, h⟩ := h
  have hl : (abv row).length ≤ 16 := Nat.le_trans (List.length_filter_le _ _) (rows_len _ hr)
  show _ ∧ _
  refine ⟨rfl, rfl, row, hr, rfl, ?_⟩
  refine ⟨by rw [List.length_map]; omega, ?_⟩
  refine lc_if' _ (fun o => mean r o == l && (cost row o == c)) (fun o => D.str o) _ _ _ (fun _ _ N h => h) (fun x hx => gv_andT (gv_test fun Q q => ?_) (fun _ => gv_test fun Q q => ?_)) (fun x hx _ Y hY => hY) ?_
  · exact ⟨rfl, rfl, r, x, rfl, q⟩
  · exact ⟨rfl, rfl, row, x, rfl, q⟩
  · obtain ⟨o, rest, e⟩ : ∃ o rest, (abv row).filter (fun o => mean r o == l && (cost row o == c)) = o :: rest := by
      cases e : (abv row).filter (fun o => mean r o == l && (cost row o == c)) with
      | nil =>
        exfalso
        rw [List.filter_eq_nil_iff] at e
        refine e o0 ?_ ?_
        · unfold abv
          rw [List.mem_filter]
          exact ⟨ho0, g0⟩
        · rw [m0, c0, beq_self_eq_true, beq_self_eq_true]
          rfl
      | cons o rest => exact ⟨o, rest, rfl⟩
    have hm : o ∈ (abv row).filter (fun o => mean r o == l && (cost row o == c)) := by rw [e]; exact List.mem_cons_self ..
    rw [List.mem_filter, Bool.and_eq_true, beq_iff_eq, beq_iff_eq] at hm
    obtain ⟨h1, h2, h3⟩ := hm
    unfold abv at h1
    rw [List.mem_filter] at h1
    rw [e]
    show match atI (D.str o :: rest.map D.str) 0 with | some d => _ | none => _
    rw [atI_zero]
    exact h o h1.1 h1.2 h2 h3
theorem take_of {α : Type} {l dn rs : List α} {x : α} (e : l = dn ++ x :: rs) : dn.length ≤ l.length := by
  rw [e, List.length_append]
  omega
theorem p_marks_of : ∀ ds P, f_marks_of ds P → runD n_marks_of (t_marks_of f_cheapest) ds P := fun ds P h => by
  obtain ⟨r, w, tape, z, g, ht, hz, rfl, h⟩ := h
  have hz2 := hz.2
  show _ ∧ _
  refine ⟨rfl, by show 1 ≤ sizeLine; decide, ?_⟩
  refine for_inv' D.str (fun dn ρ => ∃ a b c : Option L, ρ = [some (.im (rD r)), some (.im (sD tape)), some (.im (.str z)), some (.mu (iD (marksL r (tl z) dn))), a, b, c]) tape _ ⟨none, none, none, rfl⟩ (fun dn x rs e ρ hI => ?_) (fun ρ hI => ?_)
  · obtain ⟨a, b, c, rfl⟩ := hI
    refine ⟨_, fun N h => h, fun N hN => ?_⟩
    have hx : x ∈ rowsS w := ht.1 x (by rw [e]; simp)
    have hxl := (rows_isRow w (by have := g.w4; omega) x hx).2
    have hk := kF_le r (tl z) dn
    have hdn : dn.length ≤ 30 := Nat.le_trans (take_of e) ht.2
    refine seq_set (d := .int (kF r (tl z) dn)) ?_ ?_
    · refine gv_ixL (.mu (iD (marksL r (tl z) dn))) (i := -1) (fun Q q => q) rfl (fun Q q => q) ?_
      rw [Dl.atI_last]
      unfold marksL
      rw [List.getLast?_map, prefL_last]
      rfl
    refine seq_set (d := .bl (mayK r (tl z) x (kF r (tl z) dn))) ?_ ?_
    · have e0 : mayK r (tl z) x (kF r (tl z) dn) = (decide (kF r (tl z) dn < (tl z).length) && mayK r (tl z) x (kF r (tl z) dn)) := by
        cases e : mayK r (tl z) x (kF r (tl z) dn) with
        | false => rw [Bool.and_false]
        | true => rw [decide_eq_true (may_lt e)]; rfl
      rw [e0]
      refine gv_and (fun Q q => ?_) (fun hlt => ?_)
      · refine ⟨by omega, ?_⟩
        show Q (.im (.bl (decide (((kF r (tl z) dn : Nat) : Int) < (z.length : Int)))))
        have e1 : decide (((kF r (tl z) dn : Nat) : Int) < (z.length : Int)) = decide (kF r (tl z) dn < (tl z).length) := by
          have : (tl z).length = z.length := Array.length_toList
          rw [this]
          exact decide_eq_decide.mpr (by omega)
        rw [e1]
        exact q
      · have hlt := of_decide_eq_true hlt
        have et : (tl z)[kF r (tl z) dn]? = some (tl z)[kF r (tl z) dn] := List.getElem?_eq_getElem hlt
        have em : mayK r (tl z) x (kF r (tl z) dn) = (cheap r x (L1 (tl z)[kF r (tl z) dn])).isSome := by
          unfold mayK
          rw [et]
        rw [em, ← isNon_opt]
        refine gv_op (.im (optD (cheap r x (L1 (tl z)[kF r (tl z) dn])))) (.im .non) ?_ (fun Q q => q) (fun Q q => q)
        refine gv_call [rD r, .str x, .str (L1 (tl z)[kF r (tl z) dn])] (gva_cons (fun Q q => q) (gva_cons (fun Q q => q) (gva_cons ?_ gva_nil))) rfl (fun P q => ⟨r, x, _, by have := g.w4; omega, rfl, q⟩)
        exact gv_ixS (.im (.str z)) (i := (kF r (tl z) dn : Int)) (fun Q q => q) rfl (fun Q q => q) (by omega) (by rw [Dl.atI_nat]; exact et)
    refine app_of (ds := (marksL r (tl z) dn).map D.int) (x := .int (kF r (tl z) (dn ++ [x]) : Nat)) rfl (.inl fun Q q => ?_) (by unfold marksL; rw [List.length_map, prefL_len]; omega) ?_
    · rw [kF_snoc, kstep_may] at q
      refine ife_of (a := mayK r (tl z) x (kF r (tl z) dn)) (gv_test fun Q q => q) (fun hb => ?_) (fun hb => ?_)
      · rw [if_pos hb] at q
        exact q
      · rw [if_neg (by rw [hb]; exact Bool.false_ne_true)] at q
        exact q
    · have ee : iD (marksL r (tl z) (dn ++ [x])) = D.lst ((marksL r (tl z) dn).map D.int ++ [.int (kF r (tl z) (dn ++ [x]) : Nat)]) := by
        unfold marksL
        rw [prefL_snoc]
        show D.lst (List.map D.int _) = _
        rw [List.map_append]
        rfl
      rw [ee] at hN
      exact hN _ ⟨_, _, _, rfl⟩
  · obtain ⟨a, b, c, rfl⟩ := hI
    exact h
theorem line_base (n : Nat) : lineF n base = 0 :: List.replicate n 1000 := by
  unfold lineF
  rw [List.range_succ_eq_map, List.map_cons, List.map_map]
  refine congrArg _ ?_
  apply List.ext_getElem
  · simp
  · intro i h1 h2
    simp [base]
theorem opt_notN (o : Option Int) : ∀ Q : R → Prop, Q (.im (.bl o.isSome)) → oNotN (.im (optD o)) (.im .non) Q := fun Q q => by
  rw [← isNon_opt] at q
  exact q
theorem p_heights_of : ∀ ds P, f_heights_of ds P → runD n_heights_of (t_heights_of f_cheapest) ds P := fun ds P h => by
  obtain ⟨r, w, tape, z, g, ht, hz, rfl, h⟩ := h
  have hz2 := hz.2
  have hw : w < 5 := by have := g.w4; omega
  have hzl : (tl z).length = z.length := Array.length_toList
  refine seq_mu (d := iiD [lineF z.length base]) ?_ ?_
  · intro Q q
    show _ ∧ _
    refine ⟨rfl, by show 1 ≤ sizeLine; decide, ?_⟩
    refine ⟨rfl, by show 1 ≤ sizeLine; decide, ?_⟩
    refine ⟨by omega, ?_⟩
    refine ⟨by omega, by omega, by show 1 * _ ≤ _; rw [Int.toNat_natCast]; omega, ?_⟩
    refine ⟨by show 1 + (List.flatten (List.replicate (z.length : Int).toNat [D.int 1000])).length ≤ 100000; simp; omega, ?_⟩
    refine ⟨rfl, by show 1 ≤ sizeLine; decide, ?_⟩
    rw [line_base] at q
    have e : [D.int 0] ++ (List.replicate (z.length : Int).toNat [D.int 1000]).flatten = (0 :: List.replicate z.length (1000 : Int)).map D.int := by
      rw [Int.toNat_natCast, List.map_cons, List.map_replicate, List.flatten_replicate_singleton]
      rfl
    show Q (.nw (.lst [D.lst ([D.int 0] ++ (List.replicate (z.length : Int).toNat [D.int 1000]).flatten)]))
    rw [e]
    exact q
  refine seq_for ?_
  refine for_inv' D.str (fun dn ρ => ∃ a b c d e f g h : Option L, ρ = [some (.im (rD r)), some (.im (sD tape)), some (.im (.str z)), some (.mu (iiD (highL r (tl z) dn))), a, b, c, d, e, f, g, h]) tape _ ?_ (fun dn x rs e ρ hI => ?_) (fun ρ hI => ?_)
  · refine ⟨none, none, none, none, none, none, none, none, ?_⟩
    show _ = [some (L.im (rD r)), some (L.im (sD tape)), some (L.im (D.str z)), some (L.mu (iiD [lineF (tl z).length base])), none, none, none, none, none, none, none, none]
    rw [hzl]
    rfl
  · obtain ⟨a, b, c, d, e', f, g', h', rfl⟩ := hI
    refine ⟨_, fun N h => h, fun N hN => ?_⟩
    have hx : x ∈ rowsS w := ht.1 x (by rw [e]; simp)
    have hxl := (rows_isRow w hw x hx).2
    have hdn : dn.length ≤ 30 := Nat.le_trans (take_of e) ht.2
    have er := rub_some g hx
    have elast : (List.map iD (highL r (tl z) dn)).getLast? = some (iD (lineF (tl z).length (hF r (tl z) dn))) := by
      unfold highL
      rw [List.getLast?_map, prefL_last]
      rfl
    refine seq_asgG (.im (.tup [iD (lineF (tl z).length (hF r (tl z) dn)), .int (rub r x)])) ?_ (fun N h => h) ?_
    · refine gv_tup _ (gva_cons ?_ (gva_cons ?_ gva_nil)) (by show 2 ≤ 100000; decide)
      · exact gv_ixL (.mu (iiD (highL r (tl z) dn))) (i := -1) (fun Q q => q) rfl (fun Q q => q) (by rw [Dl.atI_last]; exact elast)
      · refine gv_call [rD r, .str x, .str ""] (gva_cons (fun Q q => q) (gva_cons (fun Q q => q) (gva_cons (fun Q q => q) gva_nil))) rfl (fun P q => ⟨r, x, "", by omega, rfl, ?_⟩)
        rw [er]
        exact q
    have hn : (tl z).length ≤ 30 := by omega
    refine seq_mu (d := iD (lineF (tl z).length (midF r (tl z) (hF r (tl z) dn) x 0))) ?_ ?_
    · intro Q q
      show _ ∧ _
      refine ⟨by rw [List.length_map, lineF_len]; omega, ?_⟩
      refine lc_map' D.int (fun v => D.int (v + rub r x)) _ _ _ (fun _ _ N h => h) (fun v hv Y hY => hY) ?_
      have e1 : (lineF (tl z).length (hF r (tl z) dn)).map (fun v => D.int (v + rub r x)) = (lineF (tl z).length (midF r (tl z) (hF r (tl z) dn) x 0)).map D.int := by
        rw [midF_zero]
        unfold lineF
        rw [List.map_map, List.map_map]
        rfl
      rw [e1]
      exact q
    refine seq_for ?_
    show forRun _ _ _ (enumD (signs z)) _
    rw [signs_map, enum_map]
    refine for_inv' _ (fun dm ρ => ∃ m l q hh : Option L, ρ = [some (.im (rD r)), some (.im (sD tape)), some (.im (.str z)), some (.mu (iiD (highL r (tl z) dn))), some (.im (.str x)), some (.im (iD (lineF (tl z).length (hF r (tl z) dn)))), some (.im (.int (rub r x))), some (.mu (iD (lineF (tl z).length (midF r (tl z) (hF r (tl z) dn) x dm.length)))), m, l, q, hh]) _ _ ⟨_, _, _, _, rfl⟩ (fun dm p rs' e2 ρ hI => ?_) (fun ρ hI => ?_)
    · obtain ⟨m, l, q, hh, rfl⟩ := hI
      obtain ⟨cc, k⟩ := p
      have hm : (cc, k) ∈ (tl z).zipIdx := by rw [e2]; simp
      have hg := List.mk_mem_zipIdx_iff_getElem?.mp hm
      have hk : k < (tl z).length := (List.getElem?_eq_some_iff.mp hg).1
      have ek : k = dm.length := by
        have h1 : (tl z).zipIdx[dm.length]? = some (cc, k) := by rw [e2]; simp
        rw [List.getElem?_zipIdx] at h1
        obtain ⟨y, _, h3⟩ := Option.map_eq_some_iff.mp h1
        have := congrArg Prod.snd h3
        simp at this
        omega
      subst ek
      refine ⟨_, fun N h => h, fun N hN' => ?_⟩
      refine seq_set (d := optD (cheap r x (L1 cc))) ?_ ?_
      · exact gv_call [rD r, .str x, .str (L1 cc)] (gva_cons (fun Q q => q) (gva_cons (fun Q q => q) (gva_cons (fun Q q => q) gva_nil))) rfl (fun P q => ⟨r, x, _, by omega, rfl, q⟩)
      refine if_of (a := (cheap r x (L1 cc)).isSome) (gv_test (gv_op (.im (optD (cheap r x (L1 cc)))) (.im .non) (fun Q q => q) (fun Q q => q) (opt_notN _))) (fun hb => ?_) (fun hb => ?_)
      · obtain ⟨v, ev⟩ := Option.isSome_iff_exists.mp hb
        have eset := mid_some (f := hF r (tl z) dn) (tl z).length hg ev
        rw [ev]
        refine setL_of (ds := (lineF (tl z).length (midF r (tl z) (hF r (tl z) dn) x dm.length)).map D.int) (d := .int (min (hF r (tl z) dn (dm.length + 1) + rub r x) (hF r (tl z) dn dm.length + v))) (k := ((dm.length + 1 : Nat) : Int)) (m := dm.length + 1) rfl ?_ (fun Q q => q) ?_ ?_
        · refine gv_min2 ?_ (gv_add ?_ (fun Q q => q))
          · refine gv_ixL (.mu (iD (lineF (tl z).length (midF r (tl z) (hF r (tl z) dn) x dm.length)))) (i := ((dm.length + 1 : Nat) : Int)) (fun Q q => q) rfl (fun Q q => q) ?_
            rw [Dl.atI_nat, List.getElem?_map, lineF_get (by omega)]
            show some (D.int (midF r (tl z) (hF r (tl z) dn) x dm.length (dm.length + 1))) = _
            unfold midF
            rw [if_neg (by omega)]
          · refine gv_ixL (.im (iD (lineF (tl z).length (hF r (tl z) dn)))) (i := (dm.length : Int)) (fun Q q => q) rfl (fun Q q => q) ?_
            rw [Dl.atI_nat, List.getElem?_map, lineF_get (by omega)]
            rfl
        · rw [List.length_map, lineF_len]
          exact ixN_nat (by omega)
        · have e3 : ((lineF (tl z).length (midF r (tl z) (hF r (tl z) dn) x dm.length)).map D.int).set (dm.length + 1) (.int (min (hF r (tl z) dn (dm.length + 1) + rub r x) (hF r (tl z) dn dm.length + v))) = (lineF (tl z).length (midF r (tl z) (hF r (tl z) dn) x (dm.length + 1))).map D.int := by
            rw [← List.map_set, eset]
          rw [e3]
          rw [List.length_append] at hN'
          exact hN' _ ⟨_, _, _, _, rfl⟩
      · have ev : cheap r x (L1 cc) = none := by
          cases e4 : cheap r x (L1 cc) with
          | none => rfl
          | some v => rw [e4] at hb; cases hb
        rw [List.length_append] at hN'
        have e5 := mid_none (f := hF r (tl z) dn) hg ev
        rw [show dm.length + [(cc, dm.length)].length = dm.length + 1 from rfl, e5] at hN'
        exact hN' _ ⟨_, _, _, _, rfl⟩
    · obtain ⟨m, l, q, hh, rfl⟩ := hI
      have ez : (tl z).zipIdx.length = (tl z).length := List.length_zipIdx
      rw [ez, mid_full]
      dsimp only
      refine frz_of (d := iD (lineF (tl z).length (stepF r (tl z) (hF r (tl z) dn) x))) rfl ?_
      refine app_of (ds := (highL r (tl z) dn).map iD) (x := iD (lineF (tl z).length (stepF r (tl z) (hF r (tl z) dn) x))) rfl (.inl fun Q q => q) (by unfold highL; rw [List.length_map, prefL_len]; omega) ?_
      have ee : iiD (highL r (tl z) (dn ++ [x])) = D.lst ((highL r (tl z) dn).map iD ++ [iD (lineF (tl z).length (stepF r (tl z) (hF r (tl z) dn) x))]) := by
        unfold highL
        rw [prefL_snoc, hF_snoc]
        show D.lst (List.map iD _) = _
        rw [List.map_append]
        rfl
      rw [ee] at hN
      exact hN _ ⟨_, _, _, _, _, _, _, _, rfl⟩
  · obtain ⟨a, b, c, d, e, f, g, h', rfl⟩ := hI
    exact h
def f_tape_by : DF := fun ds P => ∃ (r : Rdr) (w : Nat) (tape : List Str) (z : Str), Good r w ∧ TapeIn w tape ∧ TextIn z ∧ ds = [rD r, sD tape, .str z, iiD (highL r (tl z) tape)] ∧ hF r (tl z) tape (tl z).length < 1000 ∧
  ∀ fs : List Str, Back r w tape (tl z) tape.length fs 0 → P (sD fs.reverse)
theorem high_get (r : Rdr) (t : List Nat) (tape : List Str) {i : Nat} (h : i ≤ tape.length) : atI ((highL r t tape).map iD) (i : Int) = some (iD (lineF t.length (hF r t (tape.take i)))) := by
  unfold highL
  rw [Dl.atI_nat, List.getElem?_map, prefL_get _ _ h]
  rfl
theorem line_get {n : Nat} {f : Nat → Int} {m : Nat} (h : m ≤ n) : atI ((lineF n f).map D.int) (m : Int) = some (.int (f m)) := by
  rw [Dl.atI_nat, List.getElem?_map, lineF_get h]
  rfl
theorem hF_next (r : Rdr) (t : List Nat) {tape : List Str} {a : Nat} {row : Str} (h : tape[a]? = some row) : hF r t (tape.take (a + 1)) = stepF r t (hF r t (tape.take a)) row := by
  have hl := (List.getElem?_eq_some_iff.mp h).1
  rw [List.take_succ, h, ← hF_snoc]
  rfl
theorem stepF_pos (r : Rdr) (t : List Nat) (f : Nat → Int) (row : Str) {m c : Nat} (hc : t[m]? = some c) : stepF r t f row (m + 1) = match cheap r row (L1 c) with
    | none => f (m + 1) + rub r row
    | some v => min (f (m + 1) + rub r row) (f m + v) := by
  show (match (t[m]?).bind fun c => cheap r row (L1 c) with | none => f (m + 1) + rub r row | some c => min (f (m + 1) + rub r row) (f m + c)) = _
  rw [hc]
  rfl
theorem drop_one {t : List Nat} {m c : Nat} (h : t[m]? = some c) : c :: t.drop (m + 1) = t.drop m := by
  have hl := (List.getElem?_eq_some_iff.mp h).1
  rw [List.drop_eq_getElem_cons hl]
  rw [List.getElem?_eq_getElem hl] at h
  cases h
  rfl
theorem p_tape_by : ∀ ds P, f_tape_by ds P → runD n_tape_by (t_tape_by f_cheapest f_first_row) ds P := fun ds P h => by
  obtain ⟨r, w, tape, z, g, ht, hz, rfl, hsm, h⟩ := h
  have hz2 := hz.2
  have hw : w < 5 := by have := g.w4; omega
  have hzl : (tl z).length = z.length := Array.length_toList
  have htl := ht.2
  show _ ∧ _
  refine ⟨rfl, by show 0 ≤ sizeLine; decide, ?_⟩
  refine ⟨by omega, ?_⟩
  show _ ∧ _
  refine ⟨by rw [List.length_map]; omega, by rw [List.length_map]; omega, ?_⟩
  rw [List.length_map, Int.toNat_natCast]
  unfold rangeC
  refine for_inv' _ (fun dn ρ => ∃ (fs : List Str) (m : Nat) (a b c : Option L), Back r w tape (tl z) dn.length fs m ∧ ρ = [some (.im (rD r)), some (.im (sD tape)), some (.im (.str z)), some (.im (iiD (highL r (tl z) tape))), some (.mu (sD fs)), some (.im (.int m)), a, b, c]) (List.range tape.length) _ ?_ (fun dn x rs e ρ hI => ?_) (fun ρ hI => ?_)
  · refine ⟨[], (tl z).length, none, none, none, back_zero hsm, ?_⟩
    rw [hzl]
    rfl
  · obtain ⟨fs, m, ja, jb, jc, B, rfl⟩ := hI
    have hdl : dn.length < tape.length := by
      have := congrArg List.length e
      simp at this
      omega
    have hxv : x = dn.length := by
      have h1 : (List.range tape.length)[dn.length]? = some x := by rw [e]; simp
      rw [List.getElem?_range hdl] at h1
      exact (Option.some.inj h1).symm
    subst hxv
    obtain ⟨a, ha⟩ : ∃ a : Nat, a + dn.length + 1 = tape.length := ⟨tape.length - dn.length - 1, by omega⟩
    have eat : ((tape.length : Int) - 1) + (dn.length : Int) * (-1) = (a : Int) := by omega
    rw [eat]
    have hal : a < tape.length := by omega
    obtain ⟨row, hrow⟩ : ∃ row, tape[a]? = some row := ⟨_, List.getElem?_eq_getElem hal⟩
    have hrin : row ∈ rowsS w := ht.1 row (List.mem_of_getElem? hrow)
    have hrl := (rows_isRow w hw row hrin).2
    have hml := B.ml
    have hnext := hF_next r (tl z) hrow
    have hsmall := B.small
    rw [show tape.length - dn.length = a + 1 by omega] at hsmall
    refine ⟨_, fun N h => h, fun N hN => ?_⟩
    have eN : (dn ++ [dn.length]).length = dn.length + 1 := by rw [List.length_append]; rfl
    rw [eN] at hN
    refine seq_set (d := .str row) ?_ ?_
    · exact gv_ixL (.im (sD tape)) (i := (a : Int)) (fun Q q => q) rfl (fun Q q => q) (by rw [Dl.atI_nat, List.getElem?_map, hrow]; rfl)
    have other : ∀ (m : Nat) (jd : Option L), Back r w tape (tl z) dn.length fs m → hF r (tl z) (tape.take (a + 1)) m = hF r (tl z) (tape.take a) m + rub r row →
        dApp 4 (dCall 4 f_first_row (dCons (dVar 0) (dCons (dVar 7) (dCons (dC (.str "")) (dCons (dCall 3 f_cheapest (dCons (dVar 0) (dCons (dVar 7) (dCons (dC (.str "")) dNil)))) dNil))))) { nx := N, rt := P, bk := fun ρ => dRet (dRev (dVar 4)) { nx := fun _ => P .non, rt := P } ρ, ct := N }
          [some (.im (rD r)), some (.im (sD tape)), some (.im (.str z)), some (.im (iiD (highL r (tl z) tape))), some (.mu (sD fs)), some (.im (.int m)), some (.im (.int a)), some (.im (.str row)), jd] := fun m jd B hst => by
      have er := rub_some g hrin
      refine app_all (ds := fs.map D.str) rfl (call_all [rD r, .str row, .str "", .int (rub r row)] (gva_cons (fun Q q => q) (gva_cons (fun Q q => q) (gva_cons (fun Q q => q) (gva_cons ?_ gva_nil)))) rfl ⟨r, row, "", rub r row, by omega, rfl, cheap_mem er, fun o ho hgo hmo hco => ⟨by rw [List.length_map, B.len]; omega, ?_⟩⟩)
      · refine gv_call [rD r, .str row, .str ""] (gva_cons (fun Q q => q) (gva_cons (fun Q q => q) (gva_cons (fun Q q => q) gva_nil))) rfl (fun P q => ⟨r, row, "", by omega, rfl, ?_⟩)
        rw [er]
        exact q
      · rw [hrl] at ho
        have hsm' := B.small
        rw [show tape.length - dn.length = a + 1 by omega] at hsm'
        have hrr := rub_range g hrin
        have e9 : (List.map D.str fs ++ [D.str o]) = (fs ++ [o]).map D.str := by rw [List.map_append]; rfl
        rw [e9]
        refine hN _ ⟨fs ++ [o], m, _, _, _, back_step B ha hrow ho hgo ?_ B.ml (by omega) (by rw [hco, hst]), rfl⟩
        rw [hmo]
        rfl
    cases m with
    | zero =>
      refine seq_set (d := .non) ?_ ?_
      · intro Q q
        exact ife_of (a := false) (gv_test fun Q q => q) (fun h => by cases h) fun _ => q
      refine if_of (a := (false && true)) (gv_andT (a := false) (b := true) (gv_test fun Q q => q) fun h => by cases h) (fun h => by cases h) (fun _ => ?_)
      exact other 0 _ B (by rw [hnext]; rfl)
    | succ m0 =>
      have hlt : m0 < (tl z).length := by omega
      have hc : (tl z)[m0]? = some (tl z)[m0] := List.getElem?_eq_getElem hlt
      have em1 : (((m0 + 1 : Nat) : Int) - 1) = ((m0 : Nat) : Int) := by omega
      have hidx : ∀ (ρ : Dl.Env), Gv (dVar 5) ρ (.im (.int (m0 + 1 : Nat))) → Gv (dOp oSub (dVar 5) (dC (.int 1))) ρ (.im (.int (m0 : Nat))) := fun ρ h => by
        have h2 := gv_sub (G := dC (.int 1)) (j := 1) h (fun Q q => q)
        rw [em1] at h2
        exact h2
      refine seq_set (d := optD (cheap r row (L1 (tl z)[m0]))) ?_ ?_
      · intro Q q
        refine ife_of (a := true) (gv_test fun Q q => ?_) (fun _ => ?_) (fun h => by cases h)
        · show Q (.im (.bl (decide ((0 : Int) < ((m0 + 1 : Nat) : Int)))))
          rw [decide_eq_true (by omega)]
          exact q
        · refine gv_call [rD r, .str row, .str (L1 (tl z)[m0])] (gva_cons (fun Q q => q) (gva_cons (fun Q q => q) (gva_cons ?_ gva_nil))) rfl (fun P q => ⟨r, row, _, by omega, rfl, q⟩) _ q
          exact gv_ixS (.im (.str z)) (i := (m0 : Int)) (fun Q q => q) rfl (hidx _ fun Q q => q) (by omega) (by rw [Dl.atI_nat]; exact hc)
      have hst := stepF_pos r (tl z) (hF r (tl z) (tape.take a)) row hc
      have hnext := (congrFun hnext (m0 + 1)).trans hst
      cases ec : cheap r row (L1 (tl z)[m0]) with
      | none =>
        rw [ec] at hnext
        refine if_of (a := (false && true)) (gv_andT (a := false) (b := true) (gv_test fun Q q => q) fun h => by cases h) (fun h => by cases h) (fun _ => ?_)
        exact other (m0 + 1) _ B hnext
      | some v =>
        rw [ec] at hnext
        have hnext : hF r (tl z) (tape.take (a + 1)) (m0 + 1) = min (hF r (tl z) (tape.take a) (m0 + 1) + rub r row) (hF r (tl z) (tape.take a) m0 + v) := hnext
        have hv := cheap_range hw hrin ec
        refine if_of (a := (true && (hF r (tl z) (tape.take a) m0 + v == hF r (tl z) (tape.take (a + 1)) (m0 + 1)))) (gv_andT (gv_test fun Q q => q) fun _ => gv_test (gv_op (.im (.int (hF r (tl z) (tape.take a) m0 + v))) (.im (.int (hF r (tl z) (tape.take (a + 1)) (m0 + 1)))) ?_ ?_ fun Q q => q)) (fun hb => ?_) (fun hb => ?_)
        · refine gv_add (gv_ixL (.im (iD (lineF (tl z).length (hF r (tl z) (tape.take a))))) (i := (m0 : Int)) ?_ rfl (hidx _ fun Q q => q) (line_get (by omega))) (fun Q q => q)
          exact gv_ixL (.im (iiD (highL r (tl z) tape))) (i := (a : Int)) (fun Q q => q) rfl (fun Q q => q) (high_get r (tl z) tape (by omega))
        · refine gv_ixL (.im (iD (lineF (tl z).length (hF r (tl z) (tape.take (a + 1)))))) (i := ((m0 + 1 : Nat) : Int)) ?_ rfl (fun Q q => q) (line_get hml)
          refine gv_ixL (.im (iiD (highL r (tl z) tape))) (i := ((a + 1 : Nat) : Int)) (fun Q q => q) rfl ?_ (high_get r (tl z) tape (by omega))
          have h2 := gv_add (F := dVar 6) (G := dC (.int 1)) (i := (a : Int)) (j := 1) (ρ := [some (.im (rD r)), some (.im (sD tape)), some (.im (.str z)), some (.im (iiD (highL r (tl z) tape))), some (.mu (sD fs)), some (.im (.int (m0 + 1 : Nat))), some (.im (.int a)), some (.im (.str row)), some (.im (optD (some v)))]) (fun Q q => q) (fun Q q => q)
          rw [show ((a : Int) + 1) = ((a + 1 : Nat) : Int) by omega] at h2
          exact h2
        · rw [Bool.true_and, beq_iff_eq] at hb
          refine seq_appA (ds := fs.map D.str) rfl (call_all [rD r, .str row, .str (L1 (tl z)[m0]), .int v] (gva_cons (fun Q q => q) (gva_cons (fun Q q => q) (gva_cons ?_ (gva_cons (fun Q q => q) gva_nil)))) rfl ⟨r, row, _, v, by omega, rfl, cheap_mem ec, fun o ho hgo hmo hco => ⟨by rw [List.length_map, B.len]; omega, ?_⟩⟩)
          · exact gv_ixS (.im (.str z)) (i := (m0 : Int)) (fun Q q => q) rfl (hidx _ fun Q q => q) (by omega) (by rw [Dl.atI_nat]; exact hc)
          · rw [hrl] at ho
            refine aug_sub (v := ((m0 + 1 : Nat) : Int)) (k := 1) rfl (fun Q q => q) em1 ?_
            have e9 : (List.map D.str fs ++ [D.str o]) = (fs ++ [o]).map D.str := by rw [List.map_append]; rfl
            rw [e9]
            refine hN _ ⟨fs ++ [o], m0, _, _, _, back_step B ha hrow ho hgo ?_ (by omega) (by omega) (by rw [hco, hb]), rfl⟩
            rw [hmo]
            exact drop_one hc
        · rw [Bool.true_and, beq_eq_false_iff_ne] at hb
          exact other (m0 + 1) _ B (by omega)
  · obtain ⟨fs, m, ja, jb, jc, B, rfl⟩ := hI
    rw [List.length_range] at B
    have hm0 : m = 0 := by
      have := B.small
      rw [Nat.sub_self] at this
      have h2 : base m < 1000 := this
      unfold base at h2
      by_cases hm : m = 0
      · exact hm
      · rw [if_neg hm] at h2; omega
    subst hm0
    have h3 := h fs B
    show P (.lst (List.map D.str fs).reverse)
    rw [← List.map_reverse]
    exact h3
end R2
set_option Elab.async false
set_option linter.all false
set_option maxRecDepth 100000
set_option maxHeartbeats 4000000
/-! The readings of k02's defs, third part: what an answer says of itself. -/
namespace R2
open PySem PySem.Spec PyProof.Rows L2 Dl M W02
def wD (C : Addr) (ts : List Str) (hd : D) : D := .ins C ["tape", "heights"] [sD ts, hd]
def bD (C : Addr) (ms : List Int) : D := .ins C ["marks"] [iD ms]
def f_Written_shows (C : Addr) : DF := fun ds P => ∃ (r : Rdr) (w : Nat) (tape : List Str) (z : Str), Good r w ∧ TapeIn w tape ∧ TextIn z ∧
  ((∃ ts, Right r w tape (tl z) ts ∧ ds = [wD C ts (iiD (highL r (tl z) tape)), rD r, sD tape, .str z] ∧ P (.bl true)) ∨
   (∃ ts hd, ts.length ≤ 1000 ∧ (∀ x ∈ ts, x.length ≤ 100000) ∧ ts.length ≠ tape.length ∧ ds = [wD C ts hd, rD r, sD tape, .str z] ∧ P (.bl false)))
def f_Barred_shows (C : Addr) : DF := fun ds P => ∃ (r : Rdr) (w : Nat) (tape : List Str) (z : Str), Good r w ∧ TapeIn w tape ∧ TextIn z ∧
  ((kF r (tl z) tape < (tl z).length ∧ ds = [bD C (marksL r (tl z) tape), rD r, sD tape, .str z] ∧ P (.bl true)) ∨
   (∃ ms : List Int, ms.length ≠ tape.length + 1 ∧ ds = [bD C ms, rD r, sD tape, .str z] ∧ P (.bl false)))
theorem beq_nat (a b : Nat) : ((a : Int) == (b : Int)) = (a == b) := by
  by_cases e : a = b
  · rw [e, beq_self_eq_true, beq_self_eq_true]
  · rw [beq_eq_false_iff_ne.mpr e, beq_eq_false_iff_ne.mpr (fun z => e (by omega))]
theorem cut_from {α : Type} (xs : List α) (k : Nat) : Dl.cutD xs (some (k : Int)) none = xs.drop k := by
  unfold Dl.cutD
  rw [HT.sIx_nat, HT.sIx_none]
  by_cases h : k ≤ xs.length
  · rw [Nat.min_eq_left h, ← List.length_drop, List.take_length]
  · rw [Nat.min_eq_right (by omega), Nat.sub_self, List.take_zero, List.drop_eq_nil_of_le (by omega)]
theorem cut_to {α : Type} (xs : List α) (k : Nat) : Dl.cutD xs none (some (k : Int)) = xs.take k := by
  unfold Dl.cutD
  rw [HT.sIx_nat, HT.sIx_none, List.drop_zero, Nat.sub_zero]
  by_cases h : k ≤ xs.length
  · rw [Nat.min_eq_left h]
  · rw [Nat.min_eq_right (by omega), List.take_length, List.take_of_length_le (by omega)]
theorem p_Barred_shows {K : PySem.W.Frag} {C : Addr} (hc : Cls K C) (hn : NoAttr K C "marks") : ∀ ds P, f_Barred_shows C ds P → runD n_Barred_shows (t_Barred_shows K f_cheapest) ds P := fun ds P h => by
  obtain ⟨r, w, tape, z, g, ht, hz, h⟩ := h
  have hz2 := hz.2
  have hw : w < 5 := by have := g.w4; omega
  have hzl : (tl z).length = z.length := Array.length_toList
  have htl := ht.2
  rcases h with ⟨hk, rfl, h⟩ | ⟨ms, hms, rfl, h⟩
  · refine seq_set (d := iD (marksL r (tl z) tape)) (fun Q q => ⟨hc, hn, q⟩) ?_
    have hlen : ((marksL r (tl z) tape).map D.int).length = tape.length + 1 := by unfold marksL; rw [List.length_map, prefL_len]
    have h0 : (marksL r (tl z) tape)[0]? = some 0 := by
      unfold marksL
      rw [prefL_get _ _ (Nat.zero_le _)]
      rfl
    have hl : (marksL r (tl z) tape).getLast? = some (kF r (tl z) tape : Int) := by unfold marksL; rw [prefL_last]
    refine seq_guard (a := (!((((marksL r (tl z) tape).map D.int).length : Int) == (((tape.map D.str).length : Int) + 1)) || (!((0 : Int) == 0) || decide ((z.length : Int) ≤ (kF r (tl z) tape : Int)))))
      (gv_orT (gv_test fun Q q => q) fun _ => gv_orT (gv_test (gv_op (.im (.int 0)) (.im (.int 0)) (gv_ixL (.im (iD (marksL r (tl z) tape))) (i := ((0 : Nat) : Int)) (fun Q q => q) rfl (fun Q q => q) (by rw [Dl.atI_nat, List.getElem?_map, h0]; rfl)) (fun Q q => q) fun Q q => q))
        fun _ => gv_test (gv_op (.im (.int (kF r (tl z) tape))) (.im (.int z.length)) (gv_ixL (.im (iD (marksL r (tl z) tape))) (i := -1) (fun Q q => q) rfl (fun Q q => q) (by rw [Dl.atI_last, List.getLast?_map, hl]; rfl)) (fun Q q => ⟨by omega, q⟩) fun Q q => q)) ?_ ?_
    · rw [hlen, List.length_map, decide_eq_false (by omega)]
      have e : (((tape.length + 1 : Nat) : Int) == ((tape.length : Nat) : Int) + 1) = true := beq_iff_eq.mpr (by omega)
      rw [e]
      rfl
    refine seq_for ?_
    show forRun _ _ _ (trisD (tape.map D.str) ((marksL r (tl z) tape).map D.int) (cutD ((marksL r (tl z) tape).map D.int) (some 1) none)) _
    have ecut : Dl.cutD ((marksL r (tl z) tape).map D.int) (some 1) none = ((marksL r (tl z) tape).drop 1).map D.int := by
      rw [show (1 : Int) = ((1 : Nat) : Int) from rfl, cut_from, List.map_drop]
    rw [ecut, tris_map]
    refine for_inv' _ (fun dn ρ => ∃ a b c : Option L, ρ = [some (.im (bD C (marksL r (tl z) tape))), some (.im (rD r)), some (.im (sD tape)), some (.im (.str z)), some (.im (iD (marksL r (tl z) tape))), a, b, c]) _ _ ⟨none, none, none, rfl⟩ (fun dn x rs e ρ hI => ?_) (fun ρ hI => ?_)
    · obtain ⟨a, b, c, rfl⟩ := hI
      refine ⟨_, fun N h => h, fun N hN => ?_⟩
      obtain ⟨row, one, other⟩ := x
      have hi : (tape.zip ((marksL r (tl z) tape).zip ((marksL r (tl z) tape).drop 1)))[dn.length]? = some (row, one, other) := by rw [e]; simp
      rw [List.getElem?_zip_eq_some] at hi
      obtain ⟨h1, h2⟩ := hi
      rw [List.getElem?_zip_eq_some] at h2
      obtain ⟨h2, h3⟩ := h2
      have h1 : tape[dn.length]? = some row := h1
      have h2 : (marksL r (tl z) tape)[dn.length]? = some one := h2
      have h3 : ((marksL r (tl z) tape).drop 1)[dn.length]? = some other := h3
      have hdl : dn.length < tape.length := (List.getElem?_eq_some_iff.mp h1).1
      have hrin : row ∈ rowsS w := ht.1 row (List.mem_of_getElem? h1)
      have hrl := (rows_isRow w hw row hrin).2
      have e1 : one = (kF r (tl z) (tape.take dn.length) : Int) := by
        unfold marksL at h2
        rw [prefL_get _ _ (by omega)] at h2
        exact (Option.some.inj h2).symm
      have e2 : other = (kF r (tl z) (tape.take (dn.length + 1)) : Int) := by
        unfold marksL at h3
        rw [List.getElem?_drop, Nat.add_comm, prefL_get _ _ (by omega)] at h3
        exact (Option.some.inj h3).symm
      have e3 : kF r (tl z) (tape.take (dn.length + 1)) = if mayK r (tl z) row (kF r (tl z) (tape.take dn.length)) = true then kF r (tl z) (tape.take dn.length) + 1 else kF r (tl z) (tape.take dn.length) := by
        rw [List.take_succ, h1]
        show kF r (tl z) (tape.take dn.length ++ [row]) = _
        rw [kF_snoc, kstep_may]
      generalize kF r (tl z) (tape.take dn.length) = k at e1 e3
      subst e1 e2
      refine seq_guard (a := decide ((kF r (tl z) (tape.take (dn.length + 1)) : Int) < (k : Int))) (gv_test fun Q q => q) (by rw [decide_eq_false (by rw [e3]; split <;> omega)]) ?_
      refine if_of (a := (decide ((k : Int) < (z.length : Int)) && (((kF r (tl z) (tape.take (dn.length + 1)) : Int) == (k : Int)) && mayK r (tl z) row k))) (gv_andT (gv_test fun Q q => ⟨by omega, q⟩) fun hlt => gv_andT (gv_test fun Q q => q) fun _ => gv_test ?_) (fun hb => ?_) (fun _ => hN _ ⟨_, _, _, rfl⟩)
      · have hlt : k < (tl z).length := by have := of_decide_eq_true hlt; omega
        have et : (tl z)[k]? = some (tl z)[k] := List.getElem?_eq_getElem hlt
        have em : mayK r (tl z) row k = (cheap r row (L1 (tl z)[k])).isSome := by
          unfold mayK
          rw [et]
        rw [em]
        refine gv_op (.im (optD (cheap r row (L1 (tl z)[k])))) (.im .non) ?_ (fun Q q => q) (opt_notN _)
        refine gv_call [rD r, .str row, .str (L1 (tl z)[k])] (gva_cons (fun Q q => q) (gva_cons (fun Q q => q) (gva_cons ?_ gva_nil))) rfl (fun P q => ⟨r, row, _, by omega, rfl, q⟩)
        exact gv_ixS (.im (.str z)) (i := (k : Int)) (fun Q q => q) rfl (fun Q q => q) (by omega) (by rw [Dl.atI_nat]; exact et)
      · exfalso
        rw [Bool.and_eq_true, Bool.and_eq_true, beq_iff_eq] at hb
        rw [if_pos hb.2.2] at e3
        have := hb.2.1
        omega
    · obtain ⟨a, b, c, rfl⟩ := hI
      exact h
  · refine seq_set (d := iD ms) (fun Q q => ⟨hc, hn, q⟩) ?_
    refine seq_if (a := true) ?_ (fun _ => h) (fun e => by cases e)
    intro Q q
    show match !(((ms.map D.int).length : Int) == (((tape.map D.str).length : Int) + 1)) with | true => _ | false => _
    have e : (((ms.map D.int).length : Int) == (((tape.map D.str).length : Int) + 1)) = false := beq_eq_false_iff_ne.mpr (by rw [List.length_map, List.length_map]; omega)
    rw [e]
    exact q
theorem fld2 {C : Addr} {K : PySem.W.Frag} {ts : List Str} {hd : D} {ρ : Dl.Env} (hc : Cls K C) (hn : NoAttr K C "tape") (h : ρ[0]? = some (some (.im (wD C ts hd)))) : Gv (dFld K "tape" (dVar 0)) ρ (.im (sD ts)) := fun Q q => by
  show dVar 0 ρ _
  unfold dVar
  rw [h]
  exact ⟨hc, hn, q⟩
theorem p_Written_shows {K : PySem.W.Frag} {C : Addr} (hc : Cls K C) (hnt : NoAttr K C "tape") (hnh : NoAttr K C "heights") : ∀ ds P, f_Written_shows C ds P → runD n_Written_shows (t_Written_shows K f_are_tape f_over f_text_of f_holds f_cheapest f_taken) ds P := fun ds P h => by
  obtain ⟨r, w, tape, z, g, ht, hz, h⟩ := h
  have hz2 := hz.2
  have hw : w < 5 := by have := g.w4; omega
  have hzl : (tl z).length = z.length := Array.length_toList
  have htl := ht.2
  have rowlen : ∀ x ∈ rowsS w, x.length ≤ 100000 := fun x hx => by rw [(rows_isRow w hw x hx).2]; omega
  rcases h with ⟨ts, R, rfl, h⟩ | ⟨ts, hd, hts, hrl, hne, rfl, h⟩
  · refine seq_set (d := iiD (highL r (tl z) tape)) (fun Q q => ⟨hc, hnh, q⟩) ?_
    have htsl : ts.length ≤ 1000 := by rw [R.len]; omega
    have eall : (ts.all fun row => isRow row w) = true := List.all_eq_true.mpr fun x hx => (rows_isRow w hw x (R.ins x hx)).1
    refine seq_guard (a := (!(ts.all fun row => isRow row w) || (!(ovr tape ts) || !(reads r ts == z)))) (gv_orT (gv_notT (gv_test (gv_call [rD r, sD ts] (gva_cons (fun Q q => q) (gva_cons (fld2 hc hnt rfl) gva_nil)) rfl (fun P q => ⟨r, w, ts, g, htsl, fun x hx => rowlen x (R.ins x hx), rfl, q⟩))))
      fun _ => gv_orT (gv_notT (gv_test (gv_call [sD tape, sD ts] (gva_cons (fun Q q => q) (gva_cons (fld2 hc hnt rfl) gva_nil)) rfl (fun P q => ⟨tape, ts, by omega, fun x hx => rowlen x (ht.1 x hx), rfl, q⟩))))
        fun _ => gv_test (gv_op (.im (.str (reads r ts))) (.im (.str z)) (gv_call [rD r, sD ts] (gva_cons (fun Q q => q) (gva_cons (fld2 hc hnt rfl) gva_nil)) rfl (fun P q => ⟨r, w, ts, g, htsl, rfl, q⟩)) (fun Q q => q) fun Q q => q)) ?_ ?_
    · rw [eall, R.ovr, R.reads, beq_self_eq_true]
      rfl
    have hlen : ((highL r (tl z) tape).map iD).length = tape.length + 1 := by unfold highL; rw [List.length_map, prefL_len]
    have hg0 := high_get r (tl z) tape (i := 0) (Nat.zero_le _)
    refine seq_guard (a := (!((((highL r (tl z) tape).map iD).length : Int) == (((tape.map D.str).length : Int) + 1)) || (((highL r (tl z) tape).map fun l => !((l.length : Int) == (z.length : Int) + 1)).any id || !((0 : Int) == 0))))
      (gv_orT (gv_test fun Q q => q) fun _ => gv_orT (gv_test ?_) fun _ => gv_test (gv_op (.im (.int 0)) (.im (.int 0)) (gv_ixL (.im (iD (lineF (tl z).length (hF r (tl z) (tape.take 0))))) (i := ((0 : Nat) : Int)) (gv_ixL (.im (iiD (highL r (tl z) tape))) (i := ((0 : Nat) : Int)) (fun Q q => q) rfl (fun Q q => q) hg0) rfl (fun Q q => q) (line_get (Nat.zero_le _))) (fun Q q => q) fun Q q => q)) ?_ ?_
    · intro Q q
      show _ ∧ _
      refine ⟨by rw [hlen]; omega, ?_⟩
      refine lc_map' iD (fun l => D.bl (!((l.length : Int) == (z.length : Int) + 1))) _ _ _ (fun _ _ N h => h) (fun l hl Y hY => ⟨by omega, ?_⟩) ?_
      · show Y (.bl (!(((l.map D.int).length : Int) == (z.length : Int) + 1)))
        rw [List.length_map]
        exact hY
      · show match blsD _ with | some ns => _ | none => _
        rw [blsD_map]
        exact q
    · rw [hlen, List.length_map]
      have e : (((tape.length + 1 : Nat) : Int) == ((tape.length : Nat) : Int) + 1) = true := beq_iff_eq.mpr (by omega)
      have e2 : ((highL r (tl z) tape).map fun l => !((l.length : Int) == (z.length : Int) + 1)).any id = false := by
        rw [List.any_map]
        refine List.any_eq_false.mpr fun l hl => ?_
        unfold highL prefL at hl
        obtain ⟨i, _, rfl⟩ := List.mem_map.mp hl
        show ¬ (!((((lineF (tl z).length _).length : Nat) : Int) == (z.length : Int) + 1)) = true
        rw [lineF_len, hzl]
        have e : (((z.length + 1 : Nat) : Int) == ((z.length : Nat) : Int) + 1) = true := beq_iff_eq.mpr (by omega)
        rw [e]
        exact Bool.false_ne_true
      rw [e, e2]
      rfl
    refine seq_for ?_
    show forRun _ _ _ (enumD (tape.map D.str)) _
    rw [enum_map]
    refine for_inv' _ (fun dn ρ => ∃ a b c : Option L, ρ = [some (.im (wD C ts (iiD (highL r (tl z) tape)))), some (.im (rD r)), some (.im (sD tape)), some (.im (.str z)), some (.im (iiD (highL r (tl z) tape))), a, b, c]) _ _ ⟨none, none, none, rfl⟩ (fun dn x rs e ρ hI => ?_) (fun ρ hI => ?_)
    · obtain ⟨a, b, c, rfl⟩ := hI
      obtain ⟨row, i⟩ := x
      have hm : (row, i) ∈ tape.zipIdx := by rw [e]; simp
      have hrow := List.mk_mem_zipIdx_iff_getElem?.mp hm
      have hil : i < tape.length := (List.getElem?_eq_some_iff.mp hrow).1
      have hrin : row ∈ rowsS w := ht.1 row (List.mem_of_getElem? hrow)
      have hrl := (rows_isRow w hw row hrin).2
      have er := rub_some g hrin
      have hnext := hF_next r (tl z) hrow
      refine ⟨_, fun N h => h, fun N hN => ?_⟩
      show _ ∧ _
      refine ⟨by omega, ?_⟩
      show -1000000 ≤ (z.length : Int) + 1 ∧ (z.length : Int) + 1 ≤ 1000000 ∧ _
      refine ⟨by omega, by omega, ?_⟩
      rw [show ((z.length : Int) + 1).toNat = (tl z).length + 1 by omega]
      unfold rangeD
      refine for_inv' _ (fun dm ρ => ∃ c : Option L, ρ = [some (.im (wD C ts (iiD (highL r (tl z) tape)))), some (.im (rD r)), some (.im (sD tape)), some (.im (.str z)), some (.im (iiD (highL r (tl z) tape))), some (.im (.int i)), some (.im (.str row)), c]) (List.range ((tl z).length + 1)) _ ⟨c, rfl⟩ (fun dm m rs2 e2 ρ hI => ?_) (fun ρ hI => ?_)
      · obtain ⟨c, rfl⟩ := hI
        have hml : m ≤ (tl z).length := by
          have : m ∈ List.range ((tl z).length + 1) := by rw [e2]; simp
          rw [List.mem_range] at this
          omega
        rw [show ((0 : Int) + (m : Int)) = (m : Int) by omega]
        refine ⟨_, fun N h => h, fun N' hN' => ?_⟩
        have i1 : ∀ (ρ : Dl.Env), Gv (dVar 5) ρ (.im (.int i)) → Gv (dOp oAdd (dVar 5) (dC (.int 1))) ρ (.im (.int ((i + 1 : Nat) : Int))) := fun ρ h => by
          have h2 := gv_add (G := dC (.int 1)) (j := 1) h (fun Q q => q)
          rw [show ((i : Int) + 1) = ((i + 1 : Nat) : Int) by omega] at h2
          exact h2
        have m1 : ∀ (ρ : Dl.Env), Gv (dVar 7) ρ (.im (.int m)) → Gv (dOp oAdd (dVar 7) (dC (.int 1))) ρ (.im (.int ((m + 1 : Nat) : Int))) := fun ρ h => by
          have h2 := gv_add (G := dC (.int 1)) (j := 1) h (fun Q q => q)
          rw [show ((m : Int) + 1) = ((m + 1 : Nat) : Int) by omega] at h2
          exact h2
        refine seq_guard (a := !(hld (hF r (tl z) (tape.take (i + 1)) m) (hF r (tl z) (tape.take i) m) (cheap r row ""))) (gv_notT (gv_test (gv_call [.int (hF r (tl z) (tape.take (i + 1)) m), .int (hF r (tl z) (tape.take i) m), optD (cheap r row "")] (gva_cons ?_ (gva_cons ?_ (gva_cons ?_ gva_nil))) rfl (fun P q => ⟨_, _, _, rfl, q⟩)))) ?_ ?_
        · exact gv_ixL (.im (iD (lineF (tl z).length (hF r (tl z) (tape.take (i + 1)))))) (i := (m : Int)) (gv_ixL (.im (iiD (highL r (tl z) tape))) (i := ((i + 1 : Nat) : Int)) (fun Q q => q) rfl (i1 _ fun Q q => q) (high_get r (tl z) tape (by omega))) rfl (fun Q q => q) (line_get hml)
        · exact gv_ixL (.im (iD (lineF (tl z).length (hF r (tl z) (tape.take i))))) (i := (m : Int)) (gv_ixL (.im (iiD (highL r (tl z) tape))) (i := (i : Int)) (fun Q q => q) rfl (fun Q q => q) (high_get r (tl z) tape (by omega))) rfl (fun Q q => q) (line_get hml)
        · exact gv_call [rD r, .str row, .str ""] (gva_cons (fun Q q => q) (gva_cons (fun Q q => q) (gva_cons (fun Q q => q) gva_nil))) rfl (fun P q => ⟨r, row, "", by omega, rfl, q⟩)
        · rw [er, hnext]
          show (!decide (_ ≤ _)) = false
          rw [decide_eq_true (step_le r (tl z) _ row m)]
          rfl
        refine if_of (a := decide ((m : Int) < (z.length : Int))) (gv_test fun Q q => ⟨by omega, q⟩) (fun hb => ?_) (fun _ => hN' _ ⟨_, rfl⟩)
        have hlt : m < (tl z).length := by have := of_decide_eq_true hb; omega
        have et : (tl z)[m]? = some (tl z)[m] := List.getElem?_eq_getElem hlt
        refine if_of (a := !(hld (hF r (tl z) (tape.take (i + 1)) (m + 1)) (hF r (tl z) (tape.take i) m) (cheap r row (L1 (tl z)[m])))) (gv_notT (gv_test (gv_call [.int (hF r (tl z) (tape.take (i + 1)) (m + 1)), .int (hF r (tl z) (tape.take i) m), optD (cheap r row (L1 (tl z)[m]))] (gva_cons ?_ (gva_cons ?_ (gva_cons ?_ gva_nil))) rfl (fun P q => ⟨_, _, _, rfl, q⟩)))) (fun hb => ?_) (fun _ => hN' _ ⟨_, rfl⟩)
        · exact gv_ixL (.im (iD (lineF (tl z).length (hF r (tl z) (tape.take (i + 1)))))) (i := ((m + 1 : Nat) : Int)) (gv_ixL (.im (iiD (highL r (tl z) tape))) (i := ((i + 1 : Nat) : Int)) (fun Q q => q) rfl (i1 _ fun Q q => q) (high_get r (tl z) tape (by omega))) rfl (m1 _ fun Q q => q) (line_get hlt)
        · exact gv_ixL (.im (iD (lineF (tl z).length (hF r (tl z) (tape.take i))))) (i := (m : Int)) (gv_ixL (.im (iiD (highL r (tl z) tape))) (i := (i : Int)) (fun Q q => q) rfl (fun Q q => q) (high_get r (tl z) tape (by omega))) rfl (fun Q q => q) (line_get hml)
        · refine gv_call [rD r, .str row, .str (L1 (tl z)[m])] (gva_cons (fun Q q => q) (gva_cons (fun Q q => q) (gva_cons ?_ gva_nil))) rfl (fun P q => ⟨r, row, _, by omega, rfl, q⟩)
          exact gv_ixS (.im (.str z)) (i := (m : Int)) (fun Q q => q) rfl (fun Q q => q) (by omega) (by rw [Dl.atI_nat]; exact et)
        · exfalso
          rw [hnext] at hb
          cases ec : cheap r row (L1 (tl z)[m]) with
          | none => rw [ec] at hb; cases hb
          | some v =>
            rw [ec] at hb
            have hb : (!decide (stepF r (tl z) (hF r (tl z) (tape.take i)) row (m + 1) ≤ hF r (tl z) (tape.take i) m + v)) = true := hb
            rw [decide_eq_true (step_le2 _ et ec)] at hb
            cases hb
      · obtain ⟨c, rfl⟩ := hI
        exact hN _ ⟨_, _, _, rfl⟩
    · obtain ⟨a, b, c, rfl⟩ := hI
      have e1 : (List.map iD (highL r (tl z) tape)).getLast? = some (iD (lineF (tl z).length (hF r (tl z) tape))) := by
        unfold highL
        rw [List.getLast?_map, prefL_last]
        rfl
      have e2 : (List.map D.int (lineF (tl z).length (hF r (tl z) tape))).getLast? = some (D.int (hF r (tl z) tape (tl z).length)) := by
        rw [List.getLast?_eq_getElem?, List.length_map, lineF_len, Nat.add_sub_cancel, List.getElem?_map, lineF_get (Nat.le_refl _)]
        rfl
      dsimp only
      refine ret_im (d := .bl (hF r (tl z) tape (tl z).length == takn tape ts)) (gv_op (.im (.int (hF r (tl z) tape (tl z).length))) (.im (.int (takn tape ts))) ?_ ?_ fun Q q => q) ?_
      · exact gv_ixL (.im (iD (lineF (tl z).length (hF r (tl z) tape)))) (i := -1) (gv_ixL (.im (iiD (highL r (tl z) tape))) (i := -1) (fun Q q => q) rfl (fun Q q => q) (by rw [Dl.atI_last]; exact e1)) rfl (fun Q q => q) (by rw [Dl.atI_last]; exact e2)
      · exact gv_call [sD tape, sD ts] (gva_cons (fun Q q => q) (gva_cons (fld2 hc hnt rfl) gva_nil)) rfl (fun P q => ⟨tape, ts, by omega, rfl, q⟩)
      · rw [R.sum, beq_self_eq_true]
        exact h
  · refine seq_set (d := hd) (fun Q q => ⟨hc, hnh, q⟩) ?_
    have eov : ovr tape ts = false := by
      unfold ovr
      rw [beq_eq_false_iff_ne.mpr (Ne.symm hne)]
      rfl
    refine seq_if (a := (!(ts.all fun row => isRow row w) || (!(ovr tape ts) || !(reads r ts == z)))) (gv_orT (gv_notT (gv_test (gv_call [rD r, sD ts] (gva_cons (fun Q q => q) (gva_cons (fld2 hc hnt rfl) gva_nil)) rfl (fun P q => ⟨r, w, ts, g, hts, hrl, rfl, q⟩))))
      fun _ => gv_orT (gv_notT (gv_test (gv_call [sD tape, sD ts] (gva_cons (fun Q q => q) (gva_cons (fld2 hc hnt rfl) gva_nil)) rfl (fun P q => ⟨tape, ts, by omega, fun x hx => rowlen x (ht.1 x hx), rfl, q⟩))))
        fun _ => gv_test (gv_op (.im (.str (reads r ts))) (.im (.str z)) (gv_call [rD r, sD ts] (gva_cons (fun Q q => q) (gva_cons (fld2 hc hnt rfl) gva_nil)) rfl (fun P q => ⟨r, w, ts, g, hts, rfl, q⟩)) (fun Q q => q) fun Q q => q)) (fun _ => h) (fun e => ?_)
    exfalso
    rw [eov, Bool.not_false, Bool.true_or, Bool.or_true] at e
    cases e
end R2
set_option Elab.async false
set_option linter.all false
set_option maxRecDepth 100000
set_option maxHeartbeats 4000000
/-! The readings of the law's own defs of k02. -/
namespace R2
open PySem PySem.Spec PyProof.Rows L2 Dl M W02
def f__law_rows : DF := fun ds P => ∃ w : Nat, w < 5 ∧ ds = [.int w] ∧ P (sD (rowsS w))
def f__law_over : DF := fun ds P => ∃ a b : Str, a.length ≤ 100000 ∧ b.length ≤ 100000 ∧ ds = [.str a, .str b] ∧ P (.bl (lovr a b))
def f__law_means : DF := fun ds P => ∃ (r : Rdr) (row : Str), ds = [rD r, .str row] ∧ P (.str (mean r row))
def f__law_reads : DF := fun ds P => ∃ (r : Rdr) (w : Nat) (tape : List Str), Good r w ∧ tape.length ≤ 1000 ∧ ds = [rD r, sD tape] ∧ P (.str (reads r tape))
def f__law_holes : DF := fun ds P => ∃ tape : List Str, tape.length ≤ 1000 ∧ (∀ x ∈ tape, x.length ≤ 1000) ∧ ds = [sD tape] ∧ P (.int (holesT tape))
def f__law_can : DF := fun ds P => ∃ a b : List Str, a.length ≤ 1000 ∧ (∀ x ∈ a, x.length ≤ 1000) ∧ (∀ x ∈ b, x.length ≤ 1000) ∧ ds = [sD a, sD b] ∧ P (.bl (a.length == b.length && (a.zip b).all fun p => lovr p.1 p.2))
def f__law_cost : DF := fun ds P => ∃ (r : Rdr) (w : Nat) (row l : Str), w < 5 ∧ row ∈ rowsS w ∧ ds = [rD r, .str row, .str l] ∧ P (optD (cheap r row l))
def f__law_whole : DF := fun ds P => ∃ i : Int, ds = [.int i] ∧ P (.bl true)
theorem sD_snoc (l : List Str) (x : Str) : sD (l ++ [x]) = .lst (l.map D.str ++ [.str x]) := by
  unfold sD
  rw [List.map_append]
  rfl
theorem iD_snoc (l : List Int) (x : Int) : iD (l ++ [x]) = .lst (l.map D.int ++ [.int x]) := by
  unfold iD
  rw [List.map_append]
  rfl
theorem pysD_ints : ∀ l : List Int, pysD (l.map D.int) = some (l.map PyData.int)
  | [] => rfl
  | i :: l => by
    rw [List.map_cons]
    show (match pyD (D.int i), pysD (l.map D.int) with | some x, some xs => some (x :: xs) | _, _ => none) = _
    rw [pysD_ints l]
    rfl
theorem ne_nil (r : R) {l : List Int} (hr : r.d = iD l) : ∀ Q : R → Prop, Q (.im (.bl (!l.isEmpty))) → oNeD r (.nw (.lst [])) Q := fun Q q => by
  refine ⟨.list (l.map PyData.int), .list [], l.isEmpty, ?_, rfl, PySem.W.shaped_ints l, by rfl, ?_, q⟩
  · rw [hr]
    show (pysD (l.map D.int)).map PyData.list = _
    rw [pysD_ints]
    rfl
  · cases l <;> rfl
theorem gv_nil : ∀ {ρ : Dl.Env}, Gv (dLst dNil) ρ (.nw (.lst [])) := fun Q q => ⟨rfl, by show 0 ≤ sizeLine; decide, q⟩
theorem gv_min1 (r : R) {F : DE} {ρ : Dl.Env} {l : List Int} {m : Int} (h : Gv F ρ r) (hr : r.d = iD l) (hm : leastOf l = some m) : Gv (dCB (call1 fMin) (dCons F dNil)) ρ (.im (.int m)) := fun Q q => h _ (by
  show fMin r Q
  unfold fMin
  rw [hr]
  show match intsD (l.map D.int) with | some ns => _ | none => _
  rw [intsD_iD]
  show match leastOf l with | some m => _ | none => _
  rw [hm]
  exact q)
theorem p__law_whole : ∀ ds P, f__law_whole ds P → runD n__law_whole t__law_whole ds P := fun ds P h => by
  obtain ⟨i, rfl, h⟩ := h
  exact h
theorem p__law_over : ∀ ds P, f__law_over ds P → runD n__law_over t__law_over ds P := fun ds P h => by
  obtain ⟨a, b, ha, hb, rfl, h⟩ := h
  unfold lovr at h
  refine gv_and (a := a.length == b.length) (fun Q q => ?_) (fun _ Q q => ?_) _ h
  · refine ⟨ha, hb, ?_⟩
    rw [← beq_nat] at q
    exact q
  · show _ ∧ _
    refine ⟨by rw [pairsD_len, signs_len, signs_len]; have : a.length = a.cps.size := rfl; omega, ?_⟩
    rw [signs_map, signs_map, pairs_map]
    refine lc_map' _ (fun p : Nat × Nat => D.bl (L1 p.1 == "." || L1 p.2 == "o")) _ _ _ (fun _ _ N h => h) (fun p hp Y hY => gv_or (fun Q q => q) (fun _ Q q => q) _ hY) ?_
    show match blsD _ with | some ns => _ | none => _
    rw [blsD_map]
    show Q (.im (.bl (((a.cps.toList.zip b.cps.toList).map fun p : Nat × Nat => L1 p.1 == ("." : Str) || L1 p.2 == ("o": Str)).all id)))
    rw [List.all_map]
    exact q
theorem p__law_means : ∀ ds P, f__law_means ds P → runD n__law_means t__law_means ds P := fun ds P h => by
  obtain ⟨r, row, rfl, h⟩ := h
  have eg := get_rD r row
  unfold mean at h
  refine ret_im (d := .str (mean r row)) (fun Q q => ?_) h
  refine ife_of (a := (getDs (ksR r) (dsR r) (Sum.inr row)).isSome) (gv_test fun Q q => q) (fun hb => ?_) (fun hb => ?_)
  · show match getDs (ksR r) (dsR r) (Sum.inr row) with | some d => Q (.im d) | none => False
    rw [eg] at hb ⊢
    unfold mean at q
    cases e : r.find? fun p => decide (p.1 = row) with
    | none => rw [e] at hb; cases hb
    | some p => rw [e] at q; exact q
  · rw [eg] at hb
    unfold mean at q
    cases e : r.find? fun p => decide (p.1 = row) with
    | none => rw [e] at q; exact q
    | some p => rw [e] at hb; cases hb
theorem p__law_reads : ∀ ds P, f__law_reads ds P → runD n__law_reads (t__law_reads f__law_means) ds P := p_text_of
theorem p__law_holes : ∀ ds P, f__law_holes ds P → runD n__law_holes t__law_holes ds P := fun ds P h => by
  obtain ⟨tape, ht, hx, rfl, h⟩ := h
  show _ ∧ _
  refine ⟨by rw [List.length_map]; omega, ?_⟩
  refine lc_map' _ (fun row => D.int (holes row)) _ _ _ (fun _ _ N h => h) (fun row hr Y hY => ?_) ?_
  · show _ ∧ _
    have hrl := hx row hr
    refine ⟨by rw [signs_len]; have : row.length = row.cps.size := rfl; omega, ?_⟩
    rw [signs_map]
    refine lc_if' _ (fun c => L1 c == ("o":Str)) (fun c => D.str (L1 c)) _ _ _ (fun _ _ N h => h) (fun x hx => gv_test fun Q q => q) (fun x hx _ Y hY => hY) ?_
    show Y (.int (((row.cps.toList.filter fun c => L1 c == ("o":Str)).map fun c => D.str (L1 c)).length : Nat))
    rw [List.length_map]
    exact hY
  · show match intsD _ with | some ns => _ | none => _
    rw [intsD_map]
    exact h
theorem p__law_can : ∀ ds P, f__law_can ds P → runD n__law_can (t__law_can f__law_over) ds P := fun ds P h => by
  obtain ⟨a, b, ha, hxa, hxb, rfl, h⟩ := h
  refine gv_and (a := a.length == b.length) (fun Q q => ?_) (fun _ Q q => ?_) _ h
  · show Q (.im (.bl (((a.map D.str).length : Int) == ((b.map D.str).length : Int))))
    rw [List.length_map, List.length_map, beq_nat]
    exact q
  · show _ ∧ _
    refine ⟨by rw [pairsD_len, List.length_map, List.length_map]; omega, ?_⟩
    rw [pairs_map]
    refine lc_map' _ (fun p : Str × Str => D.bl (lovr p.1 p.2)) _ _ _ (fun _ _ N h => h) (fun p hp Y hY => ⟨rfl, rfl, p.1, p.2, Nat.le_trans (hxa p.1 (List.of_mem_zip hp).1) (by decide), Nat.le_trans (hxb p.2 (List.of_mem_zip hp).2) (by decide), rfl, hY⟩) ?_
    show match blsD _ with | some ns => _ | none => _
    rw [blsD_map]
    show Q (.im (.bl (((a.zip b).map fun p => lovr p.1 p.2).all id)))
    rw [List.all_map]
    exact q
theorem p__law_rows : ∀ ds P, f__law_rows ds P → runD n__law_rows t__law_rows ds P := fun ds P h => by
  obtain ⟨w, hw, rfl, h⟩ := h
  have h2 : 2 ^ w ≤ 16 := Nat.le_trans (Nat.pow_le_pow_right (by decide) (show w ≤ 4 by omega)) (by decide)
  refine seq_mu (d := .lst []) (fun Q q => ⟨rfl, by show 0 ≤ sizeLine; decide, q⟩) ?_
  refine seq_for ?_
  refine ⟨⟨by omega, by omega, by decide⟩, ?_⟩
  have e1 : ((1 : Int) * 2 ^ ((w : Int)).toNat) = ((2 ^ w : Nat) : Int) := by rw [Int.toNat_natCast, Int.one_mul]; simp
  show -1000000 ≤ ((1 : Int) * 2 ^ ((w : Int)).toNat) ∧ ((1 : Int) * 2 ^ ((w : Int)).toNat) ≤ 1000000 ∧ _
  rw [e1]
  refine ⟨Int.le_trans (by decide) (Int.natCast_nonneg _), Int.le_trans (Int.ofNat_le.mpr h2) (by decide), ?_⟩
  rw [Int.toNat_natCast]
  unfold rangeD
  refine for_inv' _ (fun dn ρ => ∃ a b : Option L, ρ = [some (.im (.int w)), some (.mu (sD (dn.map (bitS w)))), a, b]) (List.range (2 ^ w)) _ ⟨none, none, rfl⟩ (fun dn n rs e ρ hI => ?_) (fun ρ hI => ?_)
  · obtain ⟨a, b, rfl⟩ := hI
    have hdl : dn.length ≤ 16 := by
      have := take_of e
      rw [List.length_range] at this
      omega
    refine ⟨_, fun N h => h, fun N hN => ?_⟩
    refine app_of (ds := (dn.map (bitS w)).map D.str) (x := .str (bitS w n)) rfl (.inl fun Q q => ?_) (by rw [List.length_map, List.length_map]; omega) ?_
    · show _ ∧ _
      refine ⟨by omega, ?_⟩
      show _ ∧ _
      refine ⟨by omega, ?_⟩
      show _ ∧ _
      rw [Int.toNat_natCast]
      refine ⟨by rw [rangeD_len]; omega, ?_⟩
      unfold rangeD
      refine lc_map' _ (fun (i : Nat) => D.str (if (Builtin.bitAnd ((n : Int) / 2 ^ ((w : Int) - 1 - (i : Int)).toNat) 1 == 1) = true then ("o" : Str) else ".")) _ _ _ (fun _ _ N h => h) (fun i hi Y hY => ?_) ?_
      · rw [List.mem_range] at hi
        rw [show ((0 : Int) + (n : Int)) = (n : Int) by omega, show ((0 : Int) + (i : Int)) = (i : Int) by omega]
        refine ife_of (a := (Builtin.bitAnd ((n : Int) / 2 ^ ((w : Int) - 1 - (i : Int)).toNat) 1 == 1)) (gv_test fun Q q => ⟨by omega, q⟩) (fun hb => ?_) (fun hb => ?_)
        · rw [if_pos hb] at hY
          exact hY
        · rw [if_neg (by rw [hb]; exact Bool.false_ne_true)] at hY
          exact hY
      · show match strsD _ with | some ys => _ | none => _
        rw [strsD_map]
        refine ⟨?_, q⟩
        have : ∀ l : List Nat, ((l.map fun (i : Nat) => if (Builtin.bitAnd ((n : Int) / 2 ^ ((w : Int) - 1 - (i : Int)).toNat) 1 == 1) = true then ("o" : Str) else ".").map (·.length)).sum ≤ l.length := by
          intro l
          induction l with
          | nil => exact Nat.le_refl _
          | cons x l ih =>
            simp only [List.map_cons, List.sum_cons, List.length_cons]
            have : (if (Builtin.bitAnd ((n : Int) / 2 ^ ((w : Int) - 1 - (x : Int)).toNat) 1 == 1) = true then ("o" : Str) else ".").length = 1 := by split <;> rfl
            omega
        have h3 := this (List.range w)
        rw [List.length_range] at h3
        show _ + _ * 0 ≤ _
        omega
    · rw [List.map_append] at hN
      rw [show List.map (bitS w) [n] = [bitS w n] from rfl, sD_snoc] at hN
      exact hN _ ⟨_, _, rfl⟩
  · obtain ⟨a, b, rfl⟩ := hI
    rw [bits_rows w hw]
    exact h
theorem filt_snoc {α β : Type} (p : α → Bool) (f : α → β) (l : List α) (x : α) : ((l ++ [x]).filter p).map f = if p x = true then (l.filter p).map f ++ [f x] else (l.filter p).map f := by
  rw [List.filter_append, List.map_append]
  cases h : p x with
  | true => simp [h]
  | false => simp [h]
theorem p__law_cost : ∀ ds P, f__law_cost ds P → runD n__law_cost (t__law_cost f__law_rows f__law_over f__law_means f__law_holes) ds P := fun ds P h => by
  obtain ⟨r, w, row, l, hw, hr, rfl, h⟩ := h
  have hrl := (rows_isRow w hw row hr).2
  refine seq_mu (d := .lst []) gv_nil ?_
  refine seq_for ?_
  show _ ∧ _
  refine ⟨by omega, ?_⟩
  refine ⟨rfl, rfl, w, hw, by rw [hrl]; rfl, ?_⟩
  have ecost : cheap r row l = leastOf (((rowsS w).filter fun o => goes row o && mean r o == l).map (cost row)) := by
    unfold cheap abv
    rw [hrl, List.filter_filter]
    refine congrArg (fun z => leastOf (z.map (cost row))) (List.filter_congr fun o _ => Bool.and_comm _ _)
  refine for_inv' D.str (fun dn ρ => ∃ a : Option L, ρ = [some (.im (rD r)), some (.im (.str row)), some (.im (.str l)), some (.mu (iD ((dn.filter fun o => goes row o && mean r o == l).map (cost row)))), a]) (rowsS w) _ ⟨none, rfl⟩ (fun dn o rs e ρ hI => ?_) (fun ρ hI => ?_)
  · obtain ⟨a, rfl⟩ := hI
    have ho : o ∈ rowsS w := by rw [e]; simp
    have hol := (rows_isRow w hw o ho).2
    have hdl : dn.length ≤ 16 := Nat.le_trans (take_of e) (rows_len w hw)
    have hfl : ((dn.filter fun o => goes row o && mean r o == l).map (cost row)).length ≤ 16 := by
      rw [List.length_map]
      exact Nat.le_trans (List.length_filter_le _ _) hdl
    refine ⟨_, fun N h => h, fun N hN => ?_⟩
    rw [filt_snoc] at hN
    refine if_of (a := (lovr row o && (mean r o == l))) (gv_andT (gv_test (gv_call [.str row, .str o] (gva_cons (fun Q q => q) (gva_cons (fun Q q => q) gva_nil)) rfl (fun P q => ⟨row, o, by omega, by omega, rfl, q⟩)))
      fun _ => gv_test (gv_op (.im (.str (mean r o))) (.im (.str l)) (gv_call [rD r, .str o] (gva_cons (fun Q q => q) (gva_cons (fun Q q => q) gva_nil)) rfl (fun P q => ⟨r, o, rfl, q⟩)) (fun Q q => q) fun Q q => q)) (fun hb => ?_) (fun hb => ?_)
    · rw [lovr_rows w hw row hr o ho] at hb
      rw [if_pos hb, iD_snoc] at hN
      refine app_of (ds := ((dn.filter fun o => goes row o && mean r o == l).map (cost row)).map D.int) (x := .int (cost row o)) rfl (.inl ?_) (by rw [List.length_map]; omega) (hN _ ⟨_, rfl⟩)
      rw [← holes_rows w hw row hr o ho]
      have hh : ∀ x : Str, x.length = w → holesT [x] = holes x := fun x _ => by unfold holesT; simp
      refine gv_sub (gv_call [.lst [.str o]] (gva_fz (gv_lst [.str o] (gva_cons (fun Q q => q) gva_nil) (by simp)) gva_nil) rfl (fun P q => ⟨[o], by simp, fun x hx => by rw [List.mem_singleton.mp hx]; omega, rfl, by rw [hh o hol]; exact q⟩))
        (gv_call [.lst [.str row]] (gva_fz (gv_lst [.str row] (gva_cons (fun Q q => q) gva_nil) (by simp)) gva_nil) rfl (fun P q => ⟨[row], by simp, fun x hx => by rw [List.mem_singleton.mp hx]; omega, rfl, by rw [hh row hrl]; exact q⟩))
    · rw [lovr_rows w hw row hr o ho] at hb
      rw [if_neg (by rw [hb]; exact Bool.false_ne_true)] at hN
      exact hN _ ⟨_, rfl⟩
  · obtain ⟨a, rfl⟩ := hI
    dsimp only
    refine ret_im (d := optD (cheap r row l)) (fun Q q => ?_) h
    rw [ecost] at q
    generalize ((rowsS w).filter fun o => goes row o && mean r o == l).map (cost row) = L at q ⊢
    refine ife_of (a := !L.isEmpty) (gv_test (gv_op (.mu (iD L)) (.nw (.lst [])) (fun Q q => q) gv_nil (ne_nil (.mu (iD L)) rfl))) (fun hb => ?_) (fun hb => ?_)
    · cases L with
      | nil => cases hb
      | cons x L => exact gv_min1 (.mu (iD (x :: L))) (fun Q q => q) rfl rfl _ q
    · cases L with
      | nil => exact q
      | cons x L => cases hb
end R2
set_option Elab.async false
set_option linter.all false
set_option maxRecDepth 100000
set_option maxHeartbeats 4000000
/-! The readings of the law's own defs of k02: the fewest holes, heights, marks. -/
namespace R2
open PySem PySem.Spec PyProof.Rows L2 Dl M W02
def f__law_fewest : DF := fun ds P => ∃ (r : Rdr) (w : Nat) (tape : List Str) (z : Str), Good r w ∧ TapeIn w tape ∧ TextIn z ∧ ds = [rD r, sD tape, .str z] ∧ P (optD (gF r (tl z) tape (tl z).length))
def f__law_are_heights : DF := fun ds P => ∃ (r : Rdr) (w : Nat) (tape : List Str) (z : Str), Good r w ∧ TapeIn w tape ∧ TextIn z ∧ ds = [rD r, sD tape, .str z, iiD (highL r (tl z) tape)] ∧ P (.bl true)
def f__law_are_marks : DF := fun ds P => ∃ (r : Rdr) (w : Nat) (tape : List Str) (z : Str), Good r w ∧ TapeIn w tape ∧ TextIn z ∧ kF r (tl z) tape < (tl z).length ∧ ds = [rD r, sD tape, .str z, iD (marksL r (tl z) tape)] ∧ P (.bl true)
theorem gv_idx1 {F : DE} {ρ : Dl.Env} {i : Nat} (h : Gv F ρ (.im (.int i))) : Gv (dOp oAdd F (dC (.int 1))) ρ (.im (.int ((i + 1 : Nat) : Int))) := by
  have h2 := gv_add (G := dC (.int 1)) (j := 1) h (fun Q q => q)
  rw [show ((i : Int) + 1) = ((i + 1 : Nat) : Int) by omega] at h2
  exact h2
theorem gv_pred {F : DE} {ρ : Dl.Env} {i : Nat} (h : Gv F ρ (.im (.int ((i + 1 : Nat) : Int)))) : Gv (dOp oSub F (dC (.int 1))) ρ (.im (.int (i : Nat))) := by
  have h2 := gv_sub (G := dC (.int 1)) (j := 1) h (fun Q q => q)
  rw [show (((i + 1 : Nat) : Int) - 1) = (i : Int) by omega] at h2
  exact h2
theorem p__law_are_marks : ∀ ds P, f__law_are_marks ds P → runD n__law_are_marks (t__law_are_marks f__law_cost) ds P := fun ds P h => by
  obtain ⟨r, w, tape, z, g, ht, hz, hk, rfl, h⟩ := h
  have hz2 := hz.2
  have hw : w < 5 := by have := g.w4; omega
  have hzl : (tl z).length = z.length := Array.length_toList
  have htl := ht.2
  have hlen : ((marksL r (tl z) tape).map D.int).length = tape.length + 1 := by unfold marksL; rw [List.length_map, prefL_len]
  have h0 : (marksL r (tl z) tape)[0]? = some 0 := by
    unfold marksL
    rw [prefL_get _ _ (Nat.zero_le _)]
    rfl
  have hl : (marksL r (tl z) tape).getLast? = some (kF r (tl z) tape : Int) := by unfold marksL; rw [prefL_last]
  refine seq_guard (a := (!((((marksL r (tl z) tape).map D.int).length : Int) == (((tape.map D.str).length : Int) + 1)) || (!((0 : Int) == 0) || decide ((z.length : Int) ≤ (kF r (tl z) tape : Int)))))
    (gv_orT (gv_test fun Q q => q) fun _ => gv_orT (gv_test (gv_op (.im (.int 0)) (.im (.int 0)) (gv_ixL (.im (iD (marksL r (tl z) tape))) (i := ((0 : Nat) : Int)) (fun Q q => q) rfl (fun Q q => q) (by rw [Dl.atI_nat, List.getElem?_map, h0]; rfl)) (fun Q q => q) fun Q q => q))
      fun _ => gv_test (gv_op (.im (.int (kF r (tl z) tape))) (.im (.int z.length)) (gv_ixL (.im (iD (marksL r (tl z) tape))) (i := -1) (fun Q q => q) rfl (fun Q q => q) (by rw [Dl.atI_last, List.getLast?_map, hl]; rfl)) (fun Q q => ⟨by omega, q⟩) fun Q q => q)) ?_ ?_
  · rw [hlen, List.length_map, decide_eq_false (by omega)]
    have e : (((tape.length + 1 : Nat) : Int) == ((tape.length : Nat) : Int) + 1) = true := beq_iff_eq.mpr (by omega)
    rw [e]
    rfl
  refine seq_for ?_
  show forRun _ _ _ (trisD (tape.map D.str) ((marksL r (tl z) tape).map D.int) (Dl.cutD ((marksL r (tl z) tape).map D.int) (some 1) none)) _
  have ecut : Dl.cutD ((marksL r (tl z) tape).map D.int) (some 1) none = ((marksL r (tl z) tape).drop 1).map D.int := by
    rw [show (1 : Int) = ((1 : Nat) : Int) from rfl, cut_from, List.map_drop]
  rw [ecut, tris_map]
  refine for_inv' _ (fun dn ρ => ∃ a b c d : Option L, ρ = [some (.im (rD r)), some (.im (sD tape)), some (.im (.str z)), some (.im (iD (marksL r (tl z) tape))), a, b, c, d]) _ _ ⟨none, none, none, none, rfl⟩ (fun dn x rs e ρ hI => ?_) (fun ρ hI => ?_)
  · obtain ⟨a, b, c, d, rfl⟩ := hI
    refine ⟨_, fun N h => h, fun N hN => ?_⟩
    obtain ⟨row, one, other⟩ := x
    have hi : (tape.zip ((marksL r (tl z) tape).zip ((marksL r (tl z) tape).drop 1)))[dn.length]? = some (row, one, other) := by rw [e]; simp
    rw [List.getElem?_zip_eq_some] at hi
    obtain ⟨h1, h2⟩ := hi
    rw [List.getElem?_zip_eq_some] at h2
    obtain ⟨h2, h3⟩ := h2
    have h1 : tape[dn.length]? = some row := h1
    have h2 : (marksL r (tl z) tape)[dn.length]? = some one := h2
    have h3 : ((marksL r (tl z) tape).drop 1)[dn.length]? = some other := h3
    have hdl : dn.length < tape.length := (List.getElem?_eq_some_iff.mp h1).1
    have hrin : row ∈ rowsS w := ht.1 row (List.mem_of_getElem? h1)
    have e1 : one = (kF r (tl z) (tape.take dn.length) : Int) := by
      unfold marksL at h2
      rw [prefL_get _ _ (by omega)] at h2
      exact (Option.some.inj h2).symm
    have e2 : other = (kF r (tl z) (tape.take (dn.length + 1)) : Int) := by
      unfold marksL at h3
      rw [List.getElem?_drop, Nat.add_comm, prefL_get _ _ (by omega)] at h3
      exact (Option.some.inj h3).symm
    have e3 : kF r (tl z) (tape.take (dn.length + 1)) = if mayK r (tl z) row (kF r (tl z) (tape.take dn.length)) = true then kF r (tl z) (tape.take dn.length) + 1 else kF r (tl z) (tape.take dn.length) := by
      rw [List.take_succ, h1]
      show kF r (tl z) (tape.take dn.length ++ [row]) = _
      rw [kF_snoc, kstep_may]
    generalize kF r (tl z) (tape.take dn.length) = k at e1 e3
    subst e1 e2
    refine seq_set (d := .bl (mayK r (tl z) row k)) ?_ ?_
    · have e0 : mayK r (tl z) row k = (decide ((k : Int) < (z.length : Int)) && mayK r (tl z) row k) := by
        cases e : mayK r (tl z) row k with
        | false => rw [Bool.and_false]
        | true => rw [decide_eq_true (by have := may_lt e; omega)]; rfl
      rw [e0]
      refine gv_and (fun Q q => ⟨by omega, q⟩) (fun hlt => ?_)
      have hlt : k < (tl z).length := by have := of_decide_eq_true hlt; omega
      have et : (tl z)[k]? = some (tl z)[k] := List.getElem?_eq_getElem hlt
      have em : mayK r (tl z) row k = (cheap r row (L1 (tl z)[k])).isSome := by
        unfold mayK
        rw [et]
      rw [em]
      refine gv_op (.im (optD (cheap r row (L1 (tl z)[k])))) (.im .non) ?_ (fun Q q => q) (opt_notN _)
      refine gv_call [rD r, .str row, .str (L1 (tl z)[k])] (gva_cons (fun Q q => q) (gva_cons (fun Q q => q) (gva_cons ?_ gva_nil))) rfl (fun P q => ⟨r, w, row, _, hw, hrin, rfl, q⟩)
      exact gv_ixS (.im (.str z)) (i := (k : Int)) (fun Q q => q) rfl (fun Q q => q) (by omega) (by rw [Dl.atI_nat]; exact et)
    refine if_of (a := decide ((kF r (tl z) (tape.take (dn.length + 1)) : Int) < (k : Int) + (if mayK r (tl z) row k = true then 1 else 0))) (gv_test fun Q q => q) (fun hb => ?_) (fun _ => hN _ ⟨_, _, _, _, rfl⟩)
    exfalso
    have := of_decide_eq_true hb
    rw [e3] at this
    split at this <;> omega
  · obtain ⟨a, b, c, d, rfl⟩ := hI
    exact h
theorem p__law_are_heights : ∀ ds P, f__law_are_heights ds P → runD n__law_are_heights (t__law_are_heights f__law_cost) ds P := fun ds P h => by
  obtain ⟨r, w, tape, z, g, ht, hz, rfl, h⟩ := h
  have hz2 := hz.2
  have hw : w < 5 := by have := g.w4; omega
  have hzl : (tl z).length = z.length := Array.length_toList
  have htl := ht.2
  have hlen : ((highL r (tl z) tape).map iD).length = tape.length + 1 := by unfold highL; rw [List.length_map, prefL_len]
  have hg0 := high_get r (tl z) tape (i := 0) (Nat.zero_le _)
  refine seq_guard (a := (!((((highL r (tl z) tape).map iD).length : Int) == (((tape.map D.str).length : Int) + 1)) || (((highL r (tl z) tape).map fun l => !((l.length : Int) == (z.length : Int) + 1)).any id || !((0 : Int) == 0))))
    (gv_orT (gv_test fun Q q => q) fun _ => gv_orT (gv_test ?_) fun _ => gv_test (gv_op (.im (.int 0)) (.im (.int 0)) (gv_ixL (.im (iD (lineF (tl z).length (hF r (tl z) (tape.take 0))))) (i := ((0 : Nat) : Int)) (gv_ixL (.im (iiD (highL r (tl z) tape))) (i := ((0 : Nat) : Int)) (fun Q q => q) rfl (fun Q q => q) hg0) rfl (fun Q q => q) (line_get (Nat.zero_le _))) (fun Q q => q) fun Q q => q)) ?_ ?_
  · intro Q q
    show _ ∧ _
    refine ⟨by rw [hlen]; omega, ?_⟩
    refine lc_map' iD (fun l => D.bl (!((l.length : Int) == (z.length : Int) + 1))) _ _ _ (fun _ _ N h => h) (fun l hl Y hY => ⟨by omega, ?_⟩) ?_
    · show Y (.bl (!(((l.map D.int).length : Int) == (z.length : Int) + 1)))
      rw [List.length_map]
      exact hY
    · show match blsD _ with | some ns => _ | none => _
      rw [blsD_map]
      exact q
  · rw [hlen, List.length_map]
    have e : (((tape.length + 1 : Nat) : Int) == ((tape.length : Nat) : Int) + 1) = true := beq_iff_eq.mpr (by omega)
    have e2 : ((highL r (tl z) tape).map fun l => !((l.length : Int) == (z.length : Int) + 1)).any id = false := by
      rw [List.any_map]
      refine List.any_eq_false.mpr fun l hl => ?_
      unfold highL prefL at hl
      obtain ⟨i, _, rfl⟩ := List.mem_map.mp hl
      show ¬ (!((((lineF (tl z).length _).length : Nat) : Int) == (z.length : Int) + 1)) = true
      rw [lineF_len, hzl]
      have e : (((z.length + 1 : Nat) : Int) == ((z.length : Nat) : Int) + 1) = true := beq_iff_eq.mpr (by omega)
      rw [e]
      exact Bool.false_ne_true
    rw [e, e2]
    rfl
  refine seq_for ?_
  show forRun _ _ _ (enumD (tape.map D.str)) _
  rw [enum_map]
  refine for_inv' _ (fun dn ρ => ∃ a b c d : Option L, ρ = [some (.im (rD r)), some (.im (sD tape)), some (.im (.str z)), some (.im (iiD (highL r (tl z) tape))), a, b, c, d]) _ _ ⟨none, none, none, none, rfl⟩ (fun dn x rs e ρ hI => ?_) (fun ρ hI => ?_)
  · obtain ⟨a, b, c, d, rfl⟩ := hI
    obtain ⟨row, i⟩ := x
    have hm : (row, i) ∈ tape.zipIdx := by rw [e]; simp
    have hrow := List.mk_mem_zipIdx_iff_getElem?.mp hm
    have hil : i < tape.length := (List.getElem?_eq_some_iff.mp hrow).1
    have hrin : row ∈ rowsS w := ht.1 row (List.mem_of_getElem? hrow)
    have er := rub_some g hrin
    have hnext := hF_next r (tl z) hrow
    refine ⟨_, fun N h => h, fun N hN => ?_⟩
    show _ ∧ _
    refine ⟨by omega, ?_⟩
    show -1000000 ≤ (z.length : Int) + 1 ∧ (z.length : Int) + 1 ≤ 1000000 ∧ _
    refine ⟨by omega, by omega, ?_⟩
    rw [show ((z.length : Int) + 1).toNat = (tl z).length + 1 by omega]
    unfold rangeD
    refine for_inv' _ (fun dm ρ => ∃ c d : Option L, ρ = [some (.im (rD r)), some (.im (sD tape)), some (.im (.str z)), some (.im (iiD (highL r (tl z) tape))), some (.im (.int i)), some (.im (.str row)), c, d]) (List.range ((tl z).length + 1)) _ ⟨c, d, rfl⟩ (fun dm m rs2 e2 ρ hI => ?_) (fun ρ hI => ?_)
    · obtain ⟨c, d, rfl⟩ := hI
      have hml : m ≤ (tl z).length := by
        have : m ∈ List.range ((tl z).length + 1) := by rw [e2]; simp
        rw [List.mem_range] at this
        omega
      rw [show ((0 : Int) + (m : Int)) = (m : Int) by omega]
      refine ⟨_, fun N h => h, fun N' hN' => ?_⟩
      refine seq_guard (a := decide (hF r (tl z) (tape.take i) m + rub r row < hF r (tl z) (tape.take (i + 1)) m)) (gv_test (gv_op (.im (.int (hF r (tl z) (tape.take (i + 1)) m))) (.im (.int (hF r (tl z) (tape.take i) m + rub r row))) ?_ (gv_add ?_ ?_) fun Q q => q)) ?_ ?_
      · exact gv_ixL (.im (iD (lineF (tl z).length (hF r (tl z) (tape.take (i + 1)))))) (i := (m : Int)) (gv_ixL (.im (iiD (highL r (tl z) tape))) (i := ((i + 1 : Nat) : Int)) (fun Q q => q) rfl (gv_idx1 fun Q q => q) (high_get r (tl z) tape (by omega))) rfl (fun Q q => q) (line_get hml)
      · exact gv_ixL (.im (iD (lineF (tl z).length (hF r (tl z) (tape.take i))))) (i := (m : Int)) (gv_ixL (.im (iiD (highL r (tl z) tape))) (i := (i : Int)) (fun Q q => q) rfl (fun Q q => q) (high_get r (tl z) tape (by omega))) rfl (fun Q q => q) (line_get hml)
      · refine gv_call [rD r, .str row, .str ""] (gva_cons (fun Q q => q) (gva_cons (fun Q q => q) (gva_cons (fun Q q => q) gva_nil))) rfl (fun P q => ⟨r, w, row, "", hw, hrin, rfl, ?_⟩)
        rw [er]
        exact q
      · rw [hnext]
        have := step_le r (tl z) (hF r (tl z) (tape.take i)) row m
        exact decide_eq_false (by omega)
      refine seq_set (d := optD (((tl z)[m]?).bind fun c => cheap r row (L1 c))) ?_ ?_
      · intro Q q
        refine ife_of (a := decide ((m : Int) < (z.length : Int))) (gv_test fun Q q => ⟨by omega, q⟩) (fun hb => ?_) (fun hb => ?_)
        · have hlt : m < (tl z).length := by have := of_decide_eq_true hb; omega
          have et : (tl z)[m]? = some (tl z)[m] := List.getElem?_eq_getElem hlt
          rw [et] at q
          refine gv_call [rD r, .str row, .str (L1 (tl z)[m])] (gva_cons (fun Q q => q) (gva_cons (fun Q q => q) (gva_cons ?_ gva_nil))) rfl (fun P q => ⟨r, w, row, _, hw, hrin, rfl, q⟩) _ q
          exact gv_ixS (.im (.str z)) (i := (m : Int)) (fun Q q => q) rfl (fun Q q => q) (by omega) (by rw [Dl.atI_nat]; exact et)
        · have hge : ¬ m < (tl z).length := fun hlt => by
            rw [decide_eq_true (by omega)] at hb
            cases hb
          rw [List.getElem?_eq_none (by omega)] at q
          exact q
      cases ec : ((tl z)[m]?).bind fun c => cheap r row (L1 c) with
      | none =>
        refine if_of (a := (false && true)) (gv_andT (a := false) (b := true) (gv_test fun Q q => q) fun h => by cases h) (fun h => by cases h) (fun _ => hN' _ ⟨_, _, rfl⟩)
      | some v =>
        obtain ⟨cc, et, ev⟩ := Option.bind_eq_some_iff.mp ec
        have hlt : m < (tl z).length := (List.getElem?_eq_some_iff.mp et).1
        refine if_of (a := (true && decide (hF r (tl z) (tape.take i) m + v < hF r (tl z) (tape.take (i + 1)) (m + 1)))) (gv_andT (gv_test fun Q q => q) fun _ => gv_test (gv_op (.im (.int (hF r (tl z) (tape.take (i + 1)) (m + 1)))) (.im (.int (hF r (tl z) (tape.take i) m + v))) ?_ (gv_add ?_ (fun Q q => q)) fun Q q => q)) (fun hb => ?_) (fun _ => hN' _ ⟨_, _, rfl⟩)
        · exact gv_ixL (.im (iD (lineF (tl z).length (hF r (tl z) (tape.take (i + 1)))))) (i := ((m + 1 : Nat) : Int)) (gv_ixL (.im (iiD (highL r (tl z) tape))) (i := ((i + 1 : Nat) : Int)) (fun Q q => q) rfl (gv_idx1 fun Q q => q) (high_get r (tl z) tape (by omega))) rfl (gv_idx1 fun Q q => q) (line_get hlt)
        · exact gv_ixL (.im (iD (lineF (tl z).length (hF r (tl z) (tape.take i))))) (i := (m : Int)) (gv_ixL (.im (iiD (highL r (tl z) tape))) (i := (i : Int)) (fun Q q => q) rfl (fun Q q => q) (high_get r (tl z) tape (by omega))) rfl (fun Q q => q) (line_get hml)
        · exfalso
          rw [Bool.true_and] at hb
          have h1 := of_decide_eq_true hb
          rw [hnext] at h1
          have := step_le2 (hF r (tl z) (tape.take i)) et ev
          omega
    · obtain ⟨c, d, rfl⟩ := hI
      exact hN _ ⟨_, _, _, _, rfl⟩
  · obtain ⟨a, b, c, d, rfl⟩ := hI
    exact h
def lineG (n : Nat) (g : Nat → Option Int) : List (Option Int) := (List.range (n + 1)).map g
theorem lineG_get {n : Nat} {g : Nat → Option Int} {m : Nat} (h : m ≤ n) : atI ((lineG n g).map optD) (m : Int) = some (optD (g m)) := by
  unfold lineG
  rw [Dl.atI_nat, List.getElem?_map, List.getElem?_map, List.getElem?_range (by omega)]
  rfl
theorem lineG_base (n : Nat) : oD (lineG n gbase) = .lst ([D.int 0] ++ (List.replicate n [D.non]).flatten) := by
  unfold oD lineG
  rw [List.range_succ_eq_map, List.map_cons, List.map_cons, List.map_map, List.map_map, List.flatten_replicate_singleton]
  have e : (List.range n).map ((optD ∘ gbase) ∘ Nat.succ) = List.replicate n D.non := by
    apply List.ext_getElem
    · simp
    · intro i h1 h2
      simp [gbase, optD]
  rw [e]
  rfl
theorem oD_snoc (l : List (Option Int)) (x : Option Int) : oD (l ++ [x]) = .lst (l.map optD ++ [optD x]) := by
  unfold oD
  rw [List.map_append]
  rfl
theorem p__law_fewest : ∀ ds P, f__law_fewest ds P → runD n__law_fewest (t__law_fewest f__law_cost) ds P := fun ds P h => by
  obtain ⟨r, w, tape, z, g, ht, hz, rfl, h⟩ := h
  have hz2 := hz.2
  have hw : w < 5 := by have := g.w4; omega
  have hzl : (tl z).length = z.length := Array.length_toList
  have htl := ht.2
  refine seq_mu (d := oD (lineG (tl z).length gbase)) ?_ ?_
  · intro Q q
    show _ ∧ _
    refine ⟨rfl, by show 1 ≤ sizeLine; decide, ?_⟩
    refine ⟨rfl, by show 1 ≤ sizeLine; decide, ?_⟩
    refine ⟨by omega, ?_⟩
    refine ⟨by omega, by omega, by show 1 * _ ≤ _; rw [Int.toNat_natCast]; omega, ?_⟩
    refine ⟨by show 1 + (List.flatten (List.replicate (z.length : Int).toNat [D.non])).length ≤ 100000; simp; omega, ?_⟩
    rw [lineG_base, hzl] at q
    show Q (.nw (.lst ([D.int 0] ++ (List.replicate (z.length : Int).toNat [D.non]).flatten)))
    rw [Int.toNat_natCast]
    exact q
  refine seq_for ?_
  refine for_inv' D.str (fun dn ρ => ∃ a b c d e : Option L, ρ = [some (.im (rD r)), some (.im (sD tape)), some (.im (.str z)), some (.mu (oD (lineG (tl z).length (gF r (tl z) dn)))), a, b, c, d, e]) tape _ ⟨none, none, none, none, none, rfl⟩ (fun dn row rs e ρ hI => ?_) (fun ρ hI => ?_)
  · obtain ⟨a, b, c, d, e', rfl⟩ := hI
    have hrin : row ∈ rowsS w := ht.1 row (by rw [e]; simp)
    have er := rub_some g hrin
    refine ⟨_, fun N h => h, fun N hN => ?_⟩
    rw [gF_snoc] at hN
    generalize gF r (tl z) dn = G at hN ⊢
    refine (gv_call (n := 3) (f := f__law_cost) (A := dCons (dVar 0) (dCons (dVar 4) (dCons (dC (.str "")) dNil))) (d := .int (rub r row)) [rD r, .str row, .str ""] (ρ := [some (.im (rD r)), some (.im (sD tape)), some (.im (.str z)), some (.im (oD (lineG (tl z).length G))), some (.im (.str row)), b, c, d, e']) (gva_cons (fun Q q => q) (gva_cons (fun Q q => q) (gva_cons (fun Q q => q) gva_nil))) rfl (fun P q => ⟨r, w, row, "", hw, hrin, rfl, ?_⟩) (fun t => dStAll [(false, 5), (true, 3), (false, 6)] [.im (oD (lineG (tl z).length G)), .nw (.lst []), t] _ _) ?_ |> fun k => (show _ from ⟨rfl, by show 0 ≤ sizeLine; decide, k⟩))
    · rw [er]
      exact q
    show _ ∧ _
    refine ⟨by omega, ?_⟩
    show -1000000 ≤ (z.length : Int) + 1 ∧ (z.length : Int) + 1 ≤ 1000000 ∧ _
    refine ⟨by omega, by omega, ?_⟩
    rw [show ((z.length : Int) + 1).toNat = (tl z).length + 1 by omega]
    unfold rangeD
    refine for_inv' _ (fun dm ρ => ∃ x y : Option L, ρ = [some (.im (rD r)), some (.im (sD tape)), some (.im (.str z)), some (.mu (oD (dm.map (gstep r (tl z) G row)))), some (.im (.str row)), some (.im (oD (lineG (tl z).length G))), some (.im (.int (rub r row))), x, y]) (List.range ((tl z).length + 1)) _ ⟨d, e', rfl⟩ (fun dm m rs2 e2 ρ hI => ?_) (fun ρ hI => ?_)
    · obtain ⟨x, y, rfl⟩ := hI
      have hml : m ≤ (tl z).length := by
        have : m ∈ List.range ((tl z).length + 1) := by rw [e2]; simp
        rw [List.mem_range] at this
        omega
      have hdm : dm.length ≤ 31 := by
        have := take_of e2
        rw [List.length_range] at this
        omega
      rw [show ((0 : Int) + (m : Int)) = (m : Int) by omega]
      refine ⟨_, fun N h => h, fun N' hN' => ?_⟩
      rw [List.map_append, show List.map (gstep r (tl z) G row) [m] = [gstep r (tl z) G row m] from rfl, oD_snoc] at hN'
      refine seq_mu (d := iD (pricesA r row (G m))) ?_ ?_
      · intro Q q
        refine ife_of (a := (G m).isSome) (gv_test (gv_op (.im (optD (G m))) (.im .non) (gv_ixL (.im (oD (lineG (tl z).length G))) (i := (m : Int)) (fun Q q => q) rfl (fun Q q => q) (lineG_get hml)) (fun Q q => q) (opt_notN _))) (fun hb => ?_) (fun hb => ?_)
        · obtain ⟨v, ev⟩ := Option.isSome_iff_exists.mp hb
          rw [ev] at q
          refine gv_lst [.int (v + rub r row)] (gva_cons (gv_add (gv_ixL (.im (oD (lineG (tl z).length G))) (i := (m : Int)) (fun Q q => q) rfl (fun Q q => q) ?_) (fun Q q => q)) gva_nil) (by simp) _ q
          rw [lineG_get hml, ev]
          rfl
        · have ev : G m = none := by
            cases e : G m with
            | none => rfl
            | some v => rw [e] at hb; cases hb
          rw [ev] at q
          exact gv_nil _ q
      have fin : ∀ (S : DTS), (dApp 3 (dIf (dTest (dOp oNeD (dVar 8) (dLst dNil))) (dCB (call1 fMin) (dCons (dVar 8) dNil)) (dC .non))) { nx := N', rt := P, bk := S { nx := N', rt := P }, ct := N' }
          [some (.im (rD r)), some (.im (sD tape)), some (.im (.str z)), some (.mu (oD (dm.map (gstep r (tl z) G row)))), some (.im (.str row)), some (.im (oD (lineG (tl z).length G))), some (.im (.int (rub r row))), some (.im (.int m)), some (.mu (iD (pricesA r row (G m) ++ pricesB r (tl z) row G m)))] := fun S => by
        refine app_of (ds := (dm.map (gstep r (tl z) G row)).map optD) (x := optD (gstep r (tl z) G row m)) rfl (.inl fun Q q => ?_) (by rw [List.length_map, List.length_map]; omega) (hN' _ ⟨_, _, rfl⟩)
        have eg : gstep r (tl z) G row m = leastOf (pricesA r row (G m) ++ pricesB r (tl z) row G m) := rfl
        rw [eg] at q
        generalize pricesA r row (G m) ++ pricesB r (tl z) row G m = Ls at q ⊢
        refine ife_of (a := !Ls.isEmpty) (gv_test (gv_op (.mu (iD Ls)) (.nw (.lst [])) (fun Q q => q) gv_nil (ne_nil (.mu (iD Ls)) rfl))) (fun hb => ?_) (fun hb => ?_)
        · cases Ls with
          | nil => cases hb
          | cons x Ls => exact gv_min1 (.mu (iD (x :: Ls))) (fun Q q => q) rfl rfl _ q
        · cases Ls with
          | nil => exact q
          | cons x Ls => cases hb
      have fin := fin (fun _ => N)
      cases m with
      | zero =>
        have eB : pricesA r row (G 0) ++ pricesB r (tl z) row G 0 = pricesA r row (G 0) := List.append_nil _
        rw [eB] at fin
        exact seq_if (a := (false && true)) (gv_andT (a := false) (b := true) (gv_test fun Q q => q) fun h => by cases h) (fun h => by cases h) (fun _ => fin)
      | succ m' =>
        have hlt : m' < (tl z).length := by omega
        have et : (tl z)[m']? = some (tl z)[m'] := List.getElem?_eq_getElem hlt
        have hzi : ∀ (ρ : Dl.Env), ρ[2]? = some (some (.im (.str z))) → Gv (dVar 7) ρ (.im (.int ((m' + 1 : Nat) : Int))) → Gv (dOp oIx (dVar 2) (dOp oSub (dVar 7) (dC (.int 1)))) ρ (.im (.str (L1 (tl z)[m']))) := fun ρ e2 h7 =>
          gv_ixS (.im (.str z)) (i := (m' : Int)) (fun Q q => by show dVar 2 ρ Q; unfold dVar; rw [e2]; exact q) rfl (gv_pred h7) (by omega) (by rw [Dl.atI_nat]; exact et)
        have eB : pricesB r (tl z) row G (m' + 1) = match G m', cheap r row (L1 (tl z)[m']) with | some v, some c => [v + c] | _, _ => [] := by
          show (match G m', ((tl z)[m']?).bind fun c => cheap r row (L1 c) with | some v, some c => [v + c] | _, _ => []) = _
          rw [et]
          rfl
        refine seq_if (a := (decide ((0 : Int) < ((m' + 1 : Nat) : Int)) && ((G m').isSome && (cheap r row (L1 (tl z)[m'])).isSome))) (gv_andT (gv_test fun Q q => q) fun _ => gv_andT (gv_test (gv_op (.im (optD (G m'))) (.im .non) (gv_ixL (.im (oD (lineG (tl z).length G))) (i := (m' : Int)) (fun Q q => q) rfl (gv_pred fun Q q => q) (lineG_get (by omega))) (fun Q q => q) (opt_notN _)))
          fun _ => gv_test (gv_op (.im (optD (cheap r row (L1 (tl z)[m'])))) (.im .non) (gv_call [rD r, .str row, .str (L1 (tl z)[m'])] (gva_cons (fun Q q => q) (gva_cons (fun Q q => q) (gva_cons (hzi _ rfl fun Q q => q) gva_nil))) rfl (fun P q => ⟨r, w, row, _, hw, hrin, rfl, q⟩)) (fun Q q => q) (opt_notN _))) (fun hb => ?_) (fun hb => ?_)
        · rw [Bool.and_eq_true, Bool.and_eq_true] at hb
          obtain ⟨v, ev⟩ := Option.isSome_iff_exists.mp hb.2.1
          obtain ⟨cst, ec⟩ := Option.isSome_iff_exists.mp hb.2.2
          rw [eB, ev, ec] at fin
          refine app_of (ds := (pricesA r row (G (m' + 1))).map D.int) (x := .int (v + cst)) rfl (.inl (gv_add (gv_ixL (.im (oD (lineG (tl z).length G))) (i := (m' : Int)) (fun Q q => q) rfl (gv_pred fun Q q => q) (by rw [lineG_get (by omega), ev]; rfl)) (gv_call [rD r, .str row, .str (L1 (tl z)[m'])] (gva_cons (fun Q q => q) (gva_cons (fun Q q => q) (gva_cons (hzi _ rfl fun Q q => q) gva_nil))) rfl (fun P q => ⟨r, w, row, _, hw, hrin, rfl, by rw [ec]; exact q⟩)))) ?_ ?_
          · rw [List.length_map]
            unfold pricesA
            split <;> simp
          · have e9 : (pricesA r row (G (m' + 1))).map D.int ++ [D.int (v + cst)] = (pricesA r row (G (m' + 1)) ++ [v + cst]).map D.int := by rw [List.map_append]; rfl
            rw [e9]
            exact fin
        · rw [decide_eq_true (by omega), Bool.true_and] at hb
          have e0 : pricesB r (tl z) row G (m' + 1) = [] := by
            rw [eB]
            cases e1 : G m' with
            | none => rfl
            | some v =>
              cases e2 : cheap r row (L1 (tl z)[m']) with
              | none => rfl
              | some c => rw [e1, e2] at hb; cases hb
          rw [e0, List.append_nil] at fin
          exact fin
    · obtain ⟨x, y, rfl⟩ := hI
      exact hN _ ⟨_, _, _, _, _, rfl⟩
  · obtain ⟨a, b, c, d, e, rfl⟩ := hI
    dsimp only
    refine ret_im (d := optD (gF r (tl z) tape (tl z).length)) ?_ h
    refine gv_ixL (.mu (oD (lineG (tl z).length (gF r (tl z) tape)))) (i := ((tl z).length : Int)) (fun Q q => q) rfl (fun Q q => ⟨by omega, ?_⟩) (lineG_get (Nat.le_refl _))
    rw [hzl] at q
    exact q
end R2
set_option Elab.async false
set_option linter.all false
set_option maxRecDepth 100000
set_option maxHeartbeats 4000000
/-! The readings of the law's draws. -/
namespace R2
open PySem PySem.Spec PyProof.Rows L2 Dl M W02
def f__law_draw : DF := fun ds P => ∃ a k m : Int, 0 ≤ k ∧ 0 < m ∧ ds = [.int a, .int k, .int m] ∧ ∀ v : Int, 0 ≤ v → v < m → P (.int v)
def f__law_cell_at : DF := fun ds P => ∃ (s : List Int) (k : Int), 0 ≤ k ∧ ds = [iD s, .int k] ∧ ∀ v : Int, 0 ≤ v → P (.int v)
def f__law_digits : DF := fun ds P => ∃ (s : List Int) (k : Int) (many : Nat) (base : Int), 0 ≤ k ∧ many ≤ 1000 ∧ 0 < base ∧ base < 1000000 ∧ ds = [iD s, .int k, .int many, .int base] ∧ ∀ ns : List Int, ns.length = many → (∀ n ∈ ns, 0 ≤ n ∧ n < base) → P (iD ns)
def primes : List Int := [1000003, 1000033, 1000037, 1000039, 1000081, 1000099, 1000117, 1000121, 1000133, 1000151, 1000159, 1000171, 1000183, 1000187, 1000193, 1000199]
theorem gv_ixT (r : R) {F G : DE} {ρ : Dl.Env} {ds : List D} {i : Int} {d : D} (h1 : Gv F ρ r) (hr : r.d = .tup ds) (h2 : Gv G ρ (.im (.int i))) (h : atI ds i = some d) : Gv (dOp oIx F G) ρ (.im d) := fun Q q => h1 _ (h2 _ (by
  show oIx r (.im (.int i)) Q
  unfold oIx
  rw [hr]
  show match atI ds i with | some d => Q (.im d) | none => False
  rw [h]
  exact q))
theorem seq_callA {n i : Nat} {f : DF} {A : DA} {ρ : Dl.Env} {U : DTS} {DD : DEnds} (ds : List D) (ha : GvA A ρ (ds.map R.im)) (hn : ds.length = n) (hf : f ds fun d => U DD (ρ.set i (some (.im d)))) : dSeq (dAsg (dCall n f A) (dSt false i)) U DD ρ :=
  call_all (Q := fun r => dSt false i r ρ (U DD)) ds ha hn hf
theorem ret_callA {n : Nat} {f : DF} {A : DA} {ρ : Dl.Env} {DD : DEnds} (ds : List D) (ha : GvA A ρ (ds.map R.im)) (hn : ds.length = n) (hf : f ds fun d => DD.rt d) : dRet (dCall n f A) DD ρ :=
  call_all (Q := fun r => match r with | .im d => DD.rt d | .nw d => DD.rt d | .mu _ => False) ds ha hn hf
theorem seq_ifR {T : DT} {S1 U : DTS} {DD : DEnds} {ρ : Dl.Env} {a : Bool} (h1 : GvT T ρ a) (ht : a = true → S1 { DD with nx := U DD } ρ) (hf : a = false → U DD ρ) : dSeq (dIfS T S1 dNext) U DD ρ := h1 _ (by
  cases a with
  | true => exact ht rfl
  | false => exact hf rfl)
theorem seq_par2A {n i j : Nat} {m1 m2 : Bool} {f : DF} {A : DA} {G : DE} {U : DTS} {DD : DEnds} {ρ : Dl.Env} (ds : List D) (ha : GvA A ρ (ds.map R.im)) (hn : ds.length = n) (hf : f ds fun d => G ρ fun s => dStAll [(m1, i), (m2, j)] [.im d, s] ρ (U DD)) : dSeq (dPar2 m1 m2 i j (dCall n f A) G) U DD ρ :=
  call_all (Q := fun r => G ρ fun s => dStAll [(m1, i), (m2, j)] [r, s] ρ (U DD)) ds ha hn hf
theorem p__law_draw : ∀ ds P, f__law_draw ds P → runD n__law_draw t__law_draw ds P := fun ds P h => by
  obtain ⟨a, k, m, hk, hm, rfl, h⟩ := h
  refine seq_set (d := .tup (primes.map D.int)) ?_ ?_
  · intro Q q
    exact ⟨rfl, by show 16 ≤ sizeLine; decide, q⟩
  have h16 : 0 ≤ k % 16 ∧ k % 16 < 16 := ⟨Int.emod_nonneg _ (by decide), Int.emod_lt_of_pos _ (by decide)⟩
  obtain ⟨j, hj⟩ : ∃ j : Nat, k % 16 = (j : Int) := ⟨(k % 16).toNat, by omega⟩
  have hj16 : j < 16 := by omega
  have hp : ∀ j, j < 16 → ∃ p, primes[j]? = some p ∧ 0 < p := by decide +kernel
  obtain ⟨p, hp1, hp2⟩ := hp j hj16
  refine ret_im (d := .int ((a * 48271 + k * 69621) % p % m)) (fun Q q => ?_) (h _ (Int.emod_nonneg _ (by omega)) (Int.emod_lt_of_pos _ hm))
  refine gv_op (t := .im (.int ((a * 48271 + k * 69621) % p % m))) (.im (.int ((a * 48271 + k * 69621) % p))) (.im (.int m)) (gv_op (.im (.int (a * 48271 + k * 69621))) (.im (.int p)) ?_ ?_ fun Q q => ⟨hp2, q⟩) (fun Q q => q) (fun Q q => ⟨hm, q⟩) Q q
  · exact gv_add (gv_op (.im (.int a)) (.im (.int 48271)) (fun Q q => q) (fun Q q => q) fun Q q => ⟨.inr ⟨by decide, by decide⟩, q⟩) (gv_op (.im (.int k)) (.im (.int 69621)) (fun Q q => q) (fun Q q => q) fun Q q => ⟨.inr ⟨by decide, by decide⟩, q⟩)
  · refine gv_ixT (.im (.tup (primes.map D.int))) (i := (j : Int)) (fun Q q => q) rfl ?_ (by rw [Dl.atI_nat, List.getElem?_map, hp1]; rfl)
    rw [← hj]
    exact gv_op (.im (.int k)) (.im (.int 16)) (fun Q q => q) (fun Q q => q) fun Q q => ⟨by show (0 : Int) < _; decide, q⟩
theorem p__law_cell_at : ∀ ds P, f__law_cell_at ds P → runD n__law_cell_at (t__law_cell_at f__law_draw) ds P := fun ds P h => by
  obtain ⟨s, k, hk, rfl, h⟩ := h
  have absn : ∀ i : Int, 0 ≤ (if i < 0 then -i else i) := fun i => by split <;> omega
  refine seq_ifR (a := decide (k < ((s.map D.int).length : Int))) (gv_test fun Q q => q) (fun hb => ?_) (fun hb => ?_)
  · have hlt := of_decide_eq_true hb
    rw [List.length_map] at hlt
    obtain ⟨j, rfl⟩ : ∃ j : Nat, k = (j : Int) := ⟨k.toNat, by omega⟩
    have hj : j < s.length := by omega
    refine ret_im (d := .int (if s[j] < 0 then -s[j] else s[j])) (fun Q q => ?_) (h _ (absn _))
    exact gv_ixL (.im (iD s)) (i := (j : Int)) (fun Q q => q) rfl (fun Q q => q) (d := .int s[j]) (by rw [Dl.atI_nat, List.getElem?_map, List.getElem?_eq_getElem hj]; rfl) _ q
  · refine ret_callA [.int ((if s.sum < 0 then -s.sum else s.sum) + 7919 * k), .int k, .int 999983] (gva_cons (gv_add ?_ ?_) (gva_cons (fun Q q => q) (gva_cons (fun Q q => q) gva_nil))) rfl ⟨_, k, 999983, hk, by decide, rfl, fun v h0 _ => h v h0⟩
    · intro Q q
      show match intsD (s.map D.int) with | some ns => _ | none => _
      rw [intsD_iD]
      exact q
    · exact gv_op (.im (.int 7919)) (.im (.int k)) (fun Q q => q) (fun Q q => q) fun Q q => ⟨.inl ⟨by decide, by decide⟩, q⟩
theorem p__law_digits : ∀ ds P, f__law_digits ds P → runD n__law_digits (t__law_digits f__law_cell_at f__law_draw) ds P := fun ds P h => by
  obtain ⟨s, k, many, base, hk, hmany, hb0, hb1, rfl, h⟩ := h
  refine seq_par2A [iD s, .int k] (gva_cons (fun Q q => q) (gva_cons (fun Q q => q) gva_nil)) rfl ⟨s, k, hk, rfl, fun cell hc => ?_⟩
  refine gv_nil _ ?_
  have gp : ∀ ρ : Dl.Env, Gv (dOp oPow (dC (.int 10)) (dC (.int 18))) ρ (.im (.int (10 ^ 18))) := fun ρ => gv_op (.im (.int 10)) (.im (.int 18)) (fun Q q => q) (fun Q q => q) fun Q q => ⟨⟨by decide, by decide, by decide⟩, q⟩
  dsimp only [dStAll, dSt]
  refine seq_set (d := .int (cell - 10 ^ 18)) ?_ ?_
  · exact gv_sub (fun Q q => q) (gp _)
  refine seq_for ?_
  show -1000000 ≤ (many : Int) ∧ (many : Int) ≤ 1000000 ∧ _
  refine ⟨by omega, by omega, ?_⟩
  rw [Int.toNat_natCast]
  unfold rangeD
  refine for_inv' _ (fun dn ρ => ∃ (ns : List Int) (left : Int) (a b c : Option L), ns.length = dn.length ∧ (∀ n ∈ ns, 0 ≤ n ∧ n < base) ∧ ρ = [some (.im (iD s)), some (.im (.int k)), some (.im (.int many)), some (.im (.int base)), some (.im (.int cell)), some (.mu (iD ns)), some (.im (.int left)), a, b, c]) (List.range many) _ ⟨[], _, none, none, none, rfl, fun n hn => (nomatch hn), rfl⟩ (fun dn t rs e ρ hI => ?_) (fun ρ hI => ?_)
  · obtain ⟨ns, left, a, b, c, hl, hr, rfl⟩ := hI
    have hdl : dn.length ≤ 1000 := by
      have := take_of e
      rw [List.length_range] at this
      omega
    have htm : t < many := by
      have : t ∈ List.range many := by rw [e]; simp
      rwa [List.mem_range] at this
    rw [show ((0 : Int) + (t : Int)) = (t : Int) by omega]
    refine ⟨_, fun N h => h, fun N hN => ?_⟩
    have more : ∀ v : Int, 0 ≤ v → v < base → (ns ++ [v]).length = (dn ++ [t]).length ∧ ∀ n ∈ ns ++ [v], 0 ≤ n ∧ n < base := fun v h0 h1 => by
      refine ⟨by rw [List.length_append, List.length_append, hl]; rfl, fun n hn => ?_⟩
      rcases List.mem_append.mp hn with q | q
      · exact hr n q
      · rw [List.mem_singleton.mp q]; exact ⟨h0, h1⟩
    refine if_of (a := decide ((10 ^ 18 : Int) ≤ cell)) (gv_test (gv_op (.im (.int cell)) (.im (.int (10 ^ 18))) (fun Q q => q) (gp _) fun Q q => q)) (fun hb => ?_) (fun hb => ?_)
    · refine seq_app (ds := ns.map D.int) (x := .int (left % base)) rfl (.inl (gv_op (.im (.int left)) (.im (.int base)) (fun Q q => q) (fun Q q => q) fun Q q => ⟨hb0, q⟩)) (by rw [List.length_map]; omega) ?_
      refine asg_of (.im (.int (left / base))) (gv_op (.im (.int left)) (.im (.int base)) (fun Q q => q) (fun Q q => q) fun Q q => ⟨⟨by omega, by omega⟩, q⟩) ?_
      obtain ⟨m1, m2⟩ := more (left % base) (Int.emod_nonneg _ (by omega)) (Int.emod_lt_of_pos _ hb0)
      have e9 : ns.map D.int ++ [D.int (left % base)] = (ns ++ [left % base]).map D.int := by rw [List.map_append]; rfl
      rw [e9]
      exact hN _ ⟨ns ++ [left % base], left / base, _, _, _, m1, m2, rfl⟩
    · have hlt : cell < 10 ^ 18 := by have := of_decide_eq_false hb; omega
      have g977 : ∀ ρ : Dl.Env, Gv (dVar 7) ρ (.im (.int t)) → Gv (dOp oMul (dC (.int 977)) (dVar 7)) ρ (.im (.int (977 * t))) := fun ρ h7 => gv_op (.im (.int 977)) (.im (.int t)) (fun Q q => q) h7 fun Q q => ⟨.inl ⟨by decide, by decide⟩, q⟩
      have g31 : ∀ ρ : Dl.Env, Gv (dVar 7) ρ (.im (.int t)) → Gv (dOp oMul (dC (.int 31)) (dVar 7)) ρ (.im (.int (31 * t))) := fun ρ h7 => gv_op (.im (.int 31)) (.im (.int t)) (fun Q q => q) h7 fun Q q => ⟨.inl ⟨by decide, by decide⟩, q⟩
      refine seq_callA [.int ((cell + 977 * t) * (cell + 31 * t + 5)), .int ((t : Int) % 9 + 1), .int 999983] (gva_cons (gv_op (.im (.int (cell + 977 * t))) (.im (.int (cell + 31 * t + 5))) (gv_add (fun Q q => q) (g977 _ fun Q q => q)) (gv_add (gv_add (fun Q q => q) (g31 _ fun Q q => q)) (fun Q q => q)) fun Q q => ⟨.inl ⟨by omega, by omega⟩, q⟩) (gva_cons (gv_add (gv_op (.im (.int t)) (.im (.int 9)) (fun Q q => q) (fun Q q => q) fun Q q => ⟨by show (0 : Int) < _; decide, q⟩) (fun Q q => q)) (gva_cons (fun Q q => q) gva_nil))) rfl ⟨_, _, _, by omega, by decide, rfl, fun v1 _ _ => ?_⟩
      refine seq_callA [.int ((cell + 31 * t) * (cell + 7) + 977 * t), .int ((t : Int) % 7 + 2), .int 1000003] (gva_cons (gv_add (gv_op (.im (.int (cell + 31 * t))) (.im (.int (cell + 7))) (gv_add (fun Q q => q) (g31 _ fun Q q => q)) (gv_add (fun Q q => q) (fun Q q => q)) fun Q q => ⟨.inl ⟨by omega, by omega⟩, q⟩) (g977 _ fun Q q => q)) (gva_cons (gv_add (gv_op (.im (.int t)) (.im (.int 7)) (fun Q q => q) (fun Q q => q) fun Q q => ⟨by show (0 : Int) < _; decide, q⟩) (fun Q q => q)) (gva_cons (fun Q q => q) gva_nil))) rfl ⟨_, _, _, by omega, by decide, rfl, fun v2 _ _ => ?_⟩
      refine app_of (ds := ns.map D.int) (x := .int ((v1 * 1000003 + v2) % base)) rfl (.inl (gv_op (.im (.int (v1 * 1000003 + v2))) (.im (.int base)) (gv_add (gv_op (.im (.int v1)) (.im (.int 1000003)) (fun Q q => q) (fun Q q => q) fun Q q => ⟨.inr ⟨by decide, by decide⟩, q⟩) (fun Q q => q)) (fun Q q => q) fun Q q => ⟨hb0, q⟩)) (by rw [List.length_map]; omega) ?_
      obtain ⟨m1, m2⟩ := more ((v1 * 1000003 + v2) % base) (Int.emod_nonneg _ (by omega)) (Int.emod_lt_of_pos _ hb0)
      have e9 : ns.map D.int ++ [D.int ((v1 * 1000003 + v2) % base)] = (ns ++ [(v1 * 1000003 + v2) % base]).map D.int := by rw [List.map_append]; rfl
      rw [e9]
      exact hN _ ⟨ns ++ [(v1 * 1000003 + v2) % base], left, _, _, _, m1, m2, rfl⟩
  · obtain ⟨ns, left, a, b, c, hl, hr, rfl⟩ := hI
    rw [List.length_range] at hl
    exact h ns hl hr
end R2
set_option Elab.async false
set_option linter.all false
set_option maxRecDepth 100000
set_option maxHeartbeats 4000000
/-! The readings of what the law draws: pool, reader, tape, text. -/
namespace R2
open PySem PySem.Spec PyProof.Rows L2 Dl M W02
def PoolIn (pool : List Str) : Prop := pool.length = 3 ∧ ∀ x ∈ pool, ∃ c, x = L1 c ∧ c ∈ letters
def f__law_pool : DF := fun ds P => ∃ (s : List Int) (k : Int), 0 ≤ k ∧ ds = [iD s, .int k] ∧ ∀ pool, PoolIn pool → P (sD pool)
def f__law_reader : DF := fun ds P => ∃ (s : List Int) (k : Int) (pool : List Str), 0 ≤ k ∧ PoolIn pool ∧ ds = [iD s, .int k, sD pool, .int 1] ∧ ∀ r w, Good r w → P (rD r)
def f__law_width : DF := fun ds P => ∃ (r : Rdr) (w : Nat), Good r w ∧ ds = [rD r] ∧ P (.int w)
def f__law_tape : DF := fun ds P => ∃ (s : List Int) (k : Int) (w many : Nat), 0 ≤ k ∧ w < 5 ∧ many ≤ 30 ∧ ds = [iD s, .int k, .int w, .int many] ∧ ∀ tape, TapeIn w tape → P (sD tape)
def f__law_text : DF := fun ds P => ∃ (s : List Int) (k : Int) (pool : List Str) (many : Nat), 0 ≤ k ∧ PoolIn pool ∧ many ≤ 30 ∧ ds = [iD s, .int k, sD pool, .int many] ∧ ∀ z, TextIn z → P (.str z)
theorem letter_at {v : Int} (h0 : 0 ≤ v) (h1 : v < 26) : ∃ c, atI (("abcdefghijklmnopqrstuvwxyz" : Str)).cps.toList v = some c ∧ c ∈ letters := by
  obtain ⟨j, rfl⟩ : ∃ j : Nat, v = (j : Int) := ⟨v.toNat, by omega⟩
  rw [Dl.atI_nat, lets_eq]
  have hj : j < letters.length := by
    have : letters.length = 26 := by decide
    omega
  exact ⟨letters[j], List.getElem?_eq_getElem hj, List.getElem_mem hj⟩
theorem lc_ex {g : DG} {F : DE} {ρ : Dl.Env} {α β : Type} (d : α → D) (e : β → D) (C : β → Prop) : ∀ (l : List α) (acc : List β) (P : List D → Prop),
    (∀ x ∈ l, ∀ (Y : D → Prop), (∀ y, C y → Y (e y)) → g (.im (d x)) ρ fun ρ' => F ρ' fun r => keepR r Y) → (∀ y ∈ acc, C y) → (∀ out : List β, out.length = acc.length + l.length → (∀ y ∈ out, C y) → P (out.map e)) → lcRun g dYes F ρ (l.map d) (acc.map e) P
  | [], acc, P, _, ha, h => h acc rfl ha
  | x :: l, acc, P, st, ha, h => by
    show g (.im (d x)) ρ fun ρ' => F ρ' fun r => keepR r fun y => lcRun g dYes F ρ (l.map d) (acc.map e ++ [y]) P
    refine st x (List.mem_cons_self ..) _ fun y hy => ?_
    have e9 : acc.map e ++ [e y] = (acc ++ [y]).map e := by rw [List.map_append]; rfl
    rw [e9]
    refine lc_ex d e C l (acc ++ [y]) P (fun z hz => st z (List.mem_cons_of_mem _ hz)) (fun z hz => ?_) (fun out ho hc => h out (by rw [ho, List.length_append, List.length_cons, List.length_cons, List.length_nil]; omega) hc)
    rcases List.mem_append.mp hz with q | q
    · exact ha z q
    · rw [List.mem_singleton.mp q]; exact hy
theorem p__law_pool : ∀ ds P, f__law_pool ds P → runD n__law_pool (t__law_pool f__law_digits) ds P := fun ds P h => by
  obtain ⟨s, k, hk, rfl, h⟩ := h
  show _ ∧ _
  refine ⟨rfl, rfl, s, k, 3, 26, hk, by decide, by decide, by decide, rfl, fun ns hl hr => ?_⟩
  refine ⟨by rw [List.length_map, hl]; decide, ?_⟩
  refine lc_ex D.int D.str (fun x => ∃ c, x = L1 c ∧ c ∈ letters) ns [] _ (fun v hv Y hY => ?_) (fun y hy => nomatch hy) (fun out ho hc => h out ⟨by rw [ho, hl]; rfl, hc⟩)
  obtain ⟨h0, h1⟩ := hr v hv
  obtain ⟨c, hc1, hc2⟩ := letter_at h0 h1
  exact gv_ixS (F := dC (.str "abcdefghijklmnopqrstuvwxyz")) (G := dVar 2) (ρ := [some (.im (iD s)), some (.im (.int k)), some (.im (.int v))]) (.im (.str "abcdefghijklmnopqrstuvwxyz")) (i := v) (fun Q q => q) rfl (fun Q q => q) (by decide) hc1 _ (hY _ ⟨c, rfl, hc2⟩)
theorem p__law_width : ∀ ds P, f__law_width ds P → runD n__law_width t__law_width ds P := fun ds P h => by
  obtain ⟨r, w, g, rfl, h⟩ := h
  obtain ⟨p, r', rfl⟩ : ∃ p r', r = p :: r' := by
    cases r with
    | nil => exact absurd rfl g.ne
    | cons a b => exact ⟨a, b, rfl⟩
  have hp := g.rows p (List.mem_cons_self ..)
  have hw := rows_isRow w (by have := g.w4; omega) p.1 hp.1
  refine ret_im (d := .int w) (gv_len (.im (.str p.1)) w ?_ fun Q q => ⟨by have := g.w4; omega, by rw [hw.2]; exact q⟩) h
  exact gv_ixL (.nw (.lst ((ksR (p :: r')).map keyV))) (i := 0) (fun Q q => q) rfl (fun Q q => q) (d := .str p.1) (atI_zero _ _)
theorem p__law_text : ∀ ds P, f__law_text ds P → runD n__law_text (t__law_text f__law_digits) ds P := fun ds P h => by
  obtain ⟨s, k, pool, many, hk, hp, hm, rfl, h⟩ := h
  refine seq_callA [iD s, .int k, .int many, .int (26 * 24)] (gva_cons (fun Q q => q) (gva_cons (fun Q q => q) (gva_cons (fun Q q => q) (gva_cons (gv_op (.im (.int 26)) (.im (.int 24)) (fun Q q => q) (fun Q q => q) fun Q q => ⟨.inl ⟨by decide, by decide⟩, q⟩) gva_nil)))) rfl ⟨s, k, many, 26 * 24, hk, by omega, by decide, by decide, rfl, fun ns hl hr => ?_⟩
  refine seq_set (d := .str "abcdefghijklmnopqrstuvwxyz") (fun Q q => q) ?_
  show _ ∧ _
  refine ⟨by rw [List.length_map, hl]; omega, ?_⟩
  refine lc_ex D.int D.str (fun x => ∃ c, x = L1 c ∧ c ∈ letters) ns [] _ (fun v hv Y hY => ?_) (fun y hy => nomatch hy) (fun out ho hc => ?_)
  · obtain ⟨h0, h1⟩ := hr v hv
    dsimp only [dSt, wipeE, startE, List.set]
    refine ife_of (a := decide (v / 26 < 23)) (gv_test (gv_op (.im (.int (v / 26))) (.im (.int 23)) (gv_op (.im (.int v)) (.im (.int 26)) (fun Q q => q) (fun Q q => q) fun Q q => ⟨⟨by decide, by decide⟩, q⟩) (fun Q q => q) fun Q q => q)) (fun _ => ?_) (fun _ => ?_)
    · have hmod : 0 ≤ v / 26 % 3 ∧ v / 26 % 3 < 3 := ⟨Int.emod_nonneg _ (by decide), Int.emod_lt_of_pos _ (by decide)⟩
      obtain ⟨j, hj⟩ : ∃ j : Nat, v / 26 % 3 = (j : Int) := ⟨(v / 26 % 3).toNat, by omega⟩
      have hjl : j < pool.length := by rw [hp.1]; omega
      refine gv_ixL (.im (sD pool)) (i := (j : Int)) (fun Q q => q) rfl ?_ (d := .str pool[j]) (by rw [Dl.atI_nat, List.getElem?_map, List.getElem?_eq_getElem hjl]; rfl) _ (hY _ (hp.2 _ (List.getElem_mem hjl)))
      rw [← hj]
      exact gv_op (.im (.int (v / 26))) (.im (.int 3)) (gv_op (.im (.int v)) (.im (.int 26)) (fun Q q => q) (fun Q q => q) fun Q q => ⟨⟨by decide, by decide⟩, q⟩) (fun Q q => q) fun Q q => ⟨by show (0 : Int) < _; decide, q⟩
    · have hmod : 0 ≤ v % 26 ∧ v % 26 < 26 := ⟨Int.emod_nonneg _ (by decide), Int.emod_lt_of_pos _ (by decide)⟩
      obtain ⟨c, hc1, hc2⟩ := letter_at hmod.1 hmod.2
      exact gv_ixS (.im (.str "abcdefghijklmnopqrstuvwxyz")) (i := v % 26) (fun Q q => q) rfl (gv_op (.im (.int v)) (.im (.int 26)) (fun Q q => q) (fun Q q => q) fun Q q => ⟨by show (0 : Int) < _; decide, q⟩) (by decide) hc1 _ (hY _ ⟨c, rfl, hc2⟩)
  · show match strsD (out.map D.str) with | some ys => _ | none => _
    rw [strsD_sD]
    have hol : out.length = many := by rw [ho, hl]; simp
    have hsum : ∀ l : List Str, (∀ y ∈ l, ∃ c, y = L1 c ∧ c ∈ letters) → (l.map (·.length)).sum = l.length ∧ (l.flatMap fun z => z.cps.toList).length = l.length ∧ ∀ c ∈ l.flatMap (fun z => z.cps.toList), c ∈ letters := by
      intro l
      induction l with
      | nil => exact fun _ => ⟨rfl, rfl, fun c hc => nomatch hc⟩
      | cons a l ih =>
        intro hx
        obtain ⟨c, rfl, hc2⟩ := hx a (List.mem_cons_self ..)
        obtain ⟨i1, i2, i3⟩ := ih fun y hy => hx y (List.mem_cons_of_mem _ hy)
        refine ⟨?_, ?_, ?_⟩
        · rw [List.map_cons, List.sum_cons, i1, List.length_cons]
          show 1 + l.length = _
          omega
        · rw [List.flatMap_cons, List.length_append, i2, List.length_cons]
          show 1 + l.length = _
          omega
        · intro x hx
          rw [List.flatMap_cons] at hx
          rcases List.mem_append.mp hx with q | q
          · have q : x ∈ [c] := q
            rw [List.mem_singleton.mp q]; exact hc2
          · exact i3 x q
    obtain ⟨i1, i2, i3⟩ := hsum out hc
    refine ⟨?_, h _ ⟨?_, ?_⟩⟩
    · rw [i1]
      show out.length + out.length * 0 ≤ _
      omega
    · rw [join_cps]
      exact i3
    · have : (Txt.join "" out).length = (Txt.join "" out).cps.toList.length := Array.length_toList.symm
      rw [this, join_cps, i2, hol]
      exact hm
end R2
set_option Elab.async false
set_option linter.all false
set_option maxRecDepth 100000
set_option maxHeartbeats 4000000
/-! The readings of what the law draws: tape, reader. -/
namespace R2
open PySem PySem.Spec PyProof.Rows L2 Dl M W02
theorem p__law_tape : ∀ ds P, f__law_tape ds P → runD n__law_tape (t__law_tape f__law_rows f__law_digits) ds P := fun ds P h => by
  obtain ⟨s, k, w, many, hk, hw, hm, rfl, h⟩ := h
  refine seq_par2A [.int w] (gva_cons (fun Q q => q) gva_nil) rfl ⟨w, hw, rfl, gv_nil _ ?_⟩
  dsimp only [dStAll, dSt]
  refine seq_for ?_
  show dCall 4 f__law_digits _ _ _
  refine call_all [iD s, .int k, .int many, .int 4096] (gva_cons (fun Q q => q) (gva_cons (fun Q q => q) (gva_cons (fun Q q => q) (gva_cons (fun Q q => q) gva_nil)))) rfl ⟨s, k, many, 4096, hk, by omega, by decide, by decide, rfl, fun ns hl hr => ?_⟩
  have hpos : ∀ w, w < 5 → 0 < (rowsS w).length := by decide +kernel
  refine for_inv' D.int (fun dn ρ => ∃ (fs : List Str) (a b : Option L), fs.length = dn.length ∧ (∀ x ∈ fs, x ∈ rowsS w) ∧ ρ = [some (.im (iD s)), some (.im (.int k)), some (.im (.int w)), some (.im (.int many)), some (.im (sD (rowsS w))), some (.mu (sD fs)), a, b]) ns _ ⟨[], none, none, rfl, fun x hx => (nomatch hx), rfl⟩ (fun dn v rs e ρ hI => ?_) (fun ρ hI => ?_)
  · obtain ⟨fs, a, b, hfl, hfi, rfl⟩ := hI
    have hdl : dn.length ≤ 30 := by have := take_of e; omega
    refine ⟨_, fun N h => h, fun N hN => ?_⟩
    refine seq_set (d := .int (Builtin.bitOr (v / 16 % 16) (v / 256 % 2 * 15))) ?_ ?_
    · refine gv_op (.im (.int (v / 16 % 16))) (.im (.int (v / 256 % 2 * 15))) ?_ ?_ fun Q q => q
      · exact gv_op (.im (.int (v / 16))) (.im (.int 16)) (gv_op (.im (.int v)) (.im (.int 16)) (fun Q q => q) (fun Q q => q) fun Q q => ⟨⟨by decide, by decide⟩, q⟩) (fun Q q => q) fun Q q => ⟨by show (0 : Int) < _; decide, q⟩
      · exact gv_op (.im (.int (v / 256 % 2))) (.im (.int 15)) (gv_op (.im (.int (v / 256))) (.im (.int 2)) (gv_op (.im (.int v)) (.im (.int 256)) (fun Q q => q) (fun Q q => q) fun Q q => ⟨⟨by decide, by decide⟩, q⟩) (fun Q q => q) fun Q q => ⟨by show (0 : Int) < _; decide, q⟩) (fun Q q => q) fun Q q => ⟨.inr ⟨by decide, by decide⟩, q⟩
    generalize Builtin.bitOr (v / 16 % 16) (v / 256 % 2 * 15) = fw
    have hlp := hpos w hw
    have hmod : 0 ≤ Builtin.bitAnd (v % 16) fw % ((rowsS w).length : Int) ∧ Builtin.bitAnd (v % 16) fw % ((rowsS w).length : Int) < (rowsS w).length := ⟨Int.emod_nonneg _ (by omega), Int.emod_lt_of_pos _ (by omega)⟩
    obtain ⟨j, hj⟩ : ∃ j : Nat, Builtin.bitAnd (v % 16) fw % ((rowsS w).length : Int) = (j : Int) := ⟨(Builtin.bitAnd (v % 16) fw % ((rowsS w).length : Int)).toNat, by omega⟩
    have hjl : j < (rowsS w).length := by omega
    refine app_of (ds := fs.map D.str) (x := .str (rowsS w)[j]) rfl (.inl (gv_ixL (.im (sD (rowsS w))) (i := (j : Int)) (fun Q q => q) rfl ?_ (by rw [Dl.atI_nat, List.getElem?_map, List.getElem?_eq_getElem hjl]; rfl))) (by rw [List.length_map]; omega) ?_
    · rw [← hj]
      refine gv_op (.im (.int (Builtin.bitAnd (v % 16) fw))) (.im (.int (rowsS w).length)) (gv_op (.im (.int (v % 16))) (.im (.int fw)) (gv_op (.im (.int v)) (.im (.int 16)) (fun Q q => q) (fun Q q => q) fun Q q => ⟨by show (0 : Int) < _; decide, q⟩) (fun Q q => q) fun Q q => q) (fun Q q => ?_) fun Q q => ⟨by show (0 : Int) < _; omega, q⟩
      show Q (.im (.int (((rowsS w).map D.str).length : Nat)))
      rw [List.length_map]
      exact q
    · have e9 : fs.map D.str ++ [D.str (rowsS w)[j]] = (fs ++ [(rowsS w)[j]]).map D.str := by rw [List.map_append]; rfl
      rw [e9]
      refine hN _ ⟨fs ++ [(rowsS w)[j]], _, _, by rw [List.length_append, List.length_append, hfl]; rfl, fun x hx => ?_, rfl⟩
      rcases List.mem_append.mp hx with q | q
      · exact hfi x q
      · rw [List.mem_singleton.mp q]; exact List.getElem_mem hjl
  · obtain ⟨fs, a, b, hfl, hfi, rfl⟩ := hI
    exact h fs ⟨hfi, by rw [hfl, hl]; exact hm⟩
/-! ### a reader -/
def putR (r : Rdr) (row l : Str) : Rdr := if (r.any fun p => decide (p.1 = row)) = true then r.map fun p => if p.1 = row then (p.1, l) else p else r ++ [(row, l)]
theorem put_rD (r : Rdr) (row l : Str) : D.dK (putKs (ksR r) (Sum.inr row)) (putDs (ksR r) (dsR r) (Sum.inr row) (.str l)) = rD (putR r row l) := by
  have ea : ((ksR r).any fun x => decide (x = Sum.inr row)) = r.any fun p => decide (p.1 = row) := by
    unfold ksR
    rw [List.any_map]
    congr 1
    funext p
    simp
  unfold putKs putDs putR rD
  rw [ea]
  split
  · congr 1
    · unfold ksR
      rw [List.map_map]
      refine List.map_congr_left fun p _ => ?_
      show _ = (Sum.inr (if p.1 = row then (p.1, l) else p).1 : Key)
      split <;> rfl
    · unfold ksR dsR
      rw [List.zip_map', List.map_map, List.map_map]
      refine List.map_congr_left fun p _ => ?_
      show (if (Sum.inr p.1 : Key) = Sum.inr row then D.str l else D.str p.2) = D.str (if p.1 = row then (p.1, l) else p).2
      by_cases h : p.1 = row
      · rw [if_pos h, if_pos (by rw [h])]
      · rw [if_neg h, if_neg (fun z => h (Sum.inr.inj z))]
  · unfold ksR dsR
    rw [List.map_append, List.map_append]
    rfl
theorem put_of {F G : DE} {ρ : Dl.Env} {i : Nat} {DD : DEnds} {r : Rdr} {row l : Str} (hi : ρ[i]? = some (some (.mu (rD r)))) (hF : Gv F ρ (.im (.str l))) (hG : Gv G ρ (.im (.str row))) (hl : r.length ≤ 100000) (k : DD.nx (ρ.set i (some (.mu (rD (putR r row l)))))) : dPut i F G DD ρ := hF _ (by
  show match ρ[i]? with
    | some (some (.mu (.dK ks ds))) => G ρ fun x => (match keyD x.d with
      | some key => ds.length ≤ 100000 ∧ DD.nx (ρ.set i (some (.mu (.dK (putKs ks key) (putDs ks ds key (.str l))))))
      | none => False)
    | some (some (.mu (.dT ks ds))) => G ρ fun x => (match x.d with
      | .tup es => (match keysD es with
        | some key => ds.length ≤ 100000 ∧ DD.nx (ρ.set i (some (.mu (.dT (putKs ks key) (putDs ks ds key (.str l))))))
        | none => False)
      | _ => False)
    | _ => False
  rw [hi]
  refine hG _ ⟨by unfold dsR; rw [List.length_map]; exact hl, ?_⟩
  rw [put_rD]
  exact k)
structure Half (r : Rdr) (w : Nat) : Prop where
  nd : (r.map (·.1)).Nodup
  rows : ∀ p ∈ r, p.1 ∈ rowsS w ∧ 46 ∈ p.1.cps.toList
  lets : ∀ p ∈ r, ∃ c, p.2 = L1 c ∧ c ∈ letters
theorem Half.put {r : Rdr} {w : Nat} (H : Half r w) {row l : Str} (h1 : row ∈ rowsS w ∧ 46 ∈ row.cps.toList) (h2 : ∃ c, l = L1 c ∧ c ∈ letters) : Half (putR r row l) w ∧ (putR r row l).length ≤ r.length + 1 ∧ putR r row l ≠ [] := by
  unfold putR
  split
  · rename_i ha
    refine ⟨⟨?_, fun p hp => ?_, fun p hp => ?_⟩, by rw [List.length_map]; omega, fun z => ?_⟩
    · rw [List.map_map]
      have e : ((fun x : Str × Str => x.1) ∘ fun p : Str × Str => if p.1 = row then (p.1, l) else p) = fun p => p.1 := by
        funext p
        show (if p.1 = row then (p.1, l) else p).1 = p.1
        split <;> rfl
      rw [e]
      exact H.nd
    · obtain ⟨q, hq, rfl⟩ := List.mem_map.mp hp
      split
      · exact H.rows q hq
      · exact H.rows q hq
    · obtain ⟨q, hq, rfl⟩ := List.mem_map.mp hp
      split
      · exact h2
      · exact H.lets q hq
    · rw [List.map_eq_nil_iff.mp z] at ha
      cases ha
  · rename_i ha
    have ha : ∀ p ∈ r, ¬ p.1 = row := fun p hp z => ha (List.any_eq_true.mpr ⟨p, hp, decide_eq_true z⟩)
    refine ⟨⟨?_, fun p hp => ?_, fun p hp => ?_⟩, by rw [List.length_append]; exact Nat.le_refl _, by simp⟩
    · rw [List.map_append, List.nodup_append]
      refine ⟨H.nd, by simp, fun x hx y hy z => ?_⟩
      obtain ⟨q, hq, rfl⟩ := List.mem_map.mp hx
      have hy : y ∈ [row] := hy
      rw [List.mem_singleton.mp hy] at z
      exact ha q hq z
    · rcases List.mem_append.mp hp with q | q
      · exact H.rows p q
      · rw [List.mem_singleton.mp q]; exact h1
    · rcases List.mem_append.mp hp with q | q
      · exact H.lets p q
      · rw [List.mem_singleton.mp q]; exact h2
theorem cut_last {α : Type} (xs : List α) : Dl.cutD xs none (some (-1)) = xs.dropLast := by
  unfold Dl.cutD
  rw [HT.sIx_none, List.drop_zero, Nat.sub_zero]
  show xs.take (if (-1 : Int) < 0 then ((-1 : Int) + (xs.length : Int)).toNat else min (-1 : Int).toNat xs.length) = _
  rw [if_pos (by decide), List.dropLast_eq_take]
  congr 1
  omega
theorem p__law_reader : ∀ ds P, f__law_reader ds P → runD n__law_reader (t__law_reader f__law_digits f__law_rows) ds P := fun ds P h => by
  obtain ⟨s, k, pool, hk, hp, rfl, h⟩ := h
  refine seq_par2A [iD s, .int k, .int 17, .int 1000] (gva_cons (fun Q q => q) (gva_cons (fun Q q => q) (gva_cons (fun Q q => q) (gva_cons (fun Q q => q) gva_nil)))) rfl ⟨s, k, 17, 1000, hk, by decide, by decide, by decide, rfl, fun ns hl hr => ?_⟩
  obtain ⟨d0, ns', rfl⟩ : ∃ d0 ns', ns = d0 :: ns' := by
    cases ns with
    | nil => cases hl
    | cons a b => exact ⟨a, b, rfl⟩
  obtain ⟨hd0, hd1⟩ := hr d0 (List.mem_cons_self ..)
  have hw4 : 0 ≤ d0 % 4 ∧ d0 % 4 < 4 := ⟨Int.emod_nonneg _ (by decide), Int.emod_lt_of_pos _ (by decide)⟩
  obtain ⟨w, hw⟩ : ∃ w : Nat, (1 : Int) + d0 % 4 = (w : Int) := ⟨(1 + d0 % 4).toNat, by omega⟩
  have hw1 : 1 ≤ w := by omega
  have hw5 : w < 5 := by omega
  show dStAll _ _ _ _
  dsimp only [dStAll, dSt]
  have gd0 : ∀ ρ : Dl.Env, ρ[4]? = some (some (.im (iD (d0 :: ns')))) → Gv (dOp oIx (dVar 4) (dC (.int 0))) ρ (.im (.int d0)) := fun ρ e =>
    gv_ixL (.im (iD (d0 :: ns'))) (i := 0) (fun Q q => by show dVar 4 ρ Q; unfold dVar; rw [e]; exact q) rfl (fun Q q => q) (atI_zero _ _)
  refine seq_set (d := .int w) ?_ ?_
  · rw [← hw]
    exact gv_add (fun Q q => q) (gv_op (.im (.int d0)) (.im (.int 4)) (gd0 _ rfl) (gv_sub (i := 5) (j := 1) (fun Q q => q) (fun Q q => q)) fun Q q => ⟨by show (0 : Int) < _; decide, q⟩)
  have hneg : Gv (dUn oNeg (dC (.int 1))) = Gv (dUn oNeg (dC (.int 1))) := rfl
  have hprops : ∀ w, w < 5 → 1 ≤ w → 0 < (rowsS w).dropLast.length ∧ (rowsS w).dropLast.length ≤ 16 ∧ ∀ x ∈ (rowsS w).dropLast, x ∈ rowsS w ∧ 46 ∈ x.cps.toList := by decide +kernel
  obtain ⟨hpos, hle, hmem⟩ := hprops w hw5 hw1
  generalize hR : (rowsS w).dropLast = rs at hpos hle hmem
  refine seq_setN (d := sD rs) ?_ ?_
  · intro Q q
    show dCall 1 f__law_rows _ _ _
    refine call_all [.int w] (gva_cons (fun Q q => q) gva_nil) rfl ⟨w, hw5, rfl, ?_⟩
    show Q (.nw (.lst (Dl.cutD ((rowsS w).map D.str) none (some (-1)))))
    rw [cut_last, ← List.map_dropLast, hR]
    exact q
  have hb : 0 ≤ d0 / 4 % (rs.length : Int) ∧ d0 / 4 % (rs.length : Int) < rs.length := ⟨Int.emod_nonneg _ (by omega), Int.emod_lt_of_pos _ (by omega)⟩
  obtain ⟨b, hbj⟩ : ∃ b : Nat, d0 / 4 % (rs.length : Int) = (b : Int) := ⟨(d0 / 4 % (rs.length : Int)).toNat, by omega⟩
  have hbl : b < rs.length := by omega
  refine seq_set (d := .int b) ?_ ?_
  · rw [← hbj]
    refine gv_op (.im (.int (d0 / 4))) (.im (.int rs.length)) (gv_op (.im (.int d0)) (.im (.int 4)) (gd0 _ rfl) (fun Q q => q) fun Q q => ⟨⟨by decide, by decide⟩, q⟩) (fun Q q => ?_) fun Q q => ⟨by show (0 : Int) < _; omega, q⟩
    show Q (.im (.int ((rs.map D.str).length : Nat)))
    rw [List.length_map]
    exact q
  refine seq_for ?_
  have erot : Dl.cutD (rs.map D.str) (some (b : Int)) none ++ Dl.cutD (rs.map D.str) none (some (b : Int)) = (rs.drop b ++ rs.take b).map D.str := by
    rw [cut_from, cut_to, List.map_append, List.map_drop, List.map_take]
  have edr : Dl.cutD ((d0 :: ns').map D.int) (some 1) none = ns'.map D.int := by
    rw [show (1 : Int) = ((1 : Nat) : Int) from rfl, cut_from]
    rfl
  show (_ ∧ forRun _ _ _ (pairsD (Dl.cutD ((d0 :: ns').map D.int) (some 1) none) (Dl.cutD (rs.map D.str) (some (b : Int)) none ++ Dl.cutD (rs.map D.str) none (some (b : Int)))) _)
  have hl1 : (Dl.cutD (rs.map D.str) (some (b : Int)) none).length + (Dl.cutD (rs.map D.str) none (some (b : Int))).length ≤ 100000 := by
    rw [cut_from, cut_to, List.length_drop, List.length_take, List.length_map]
    omega
  refine ⟨hl1, ?_⟩
  rw [erot, edr, pairs_map]
  have fin : ∀ (r : Rdr), Half r w → r ≠ [] → P (rD r) := fun r H hne => h r w ⟨hw1, by omega, hne, H.nd, H.rows, H.lets⟩
  have hp0 : 0 < pool.length := by rw [hp.1]; decide
  refine for_inv' _ (fun dn ρ => ∃ (r : Rdr) (a c : Option L), Half r w ∧ r.length ≤ dn.length ∧ ρ = [some (.im (iD s)), some (.im (.int k)), some (.im (sD pool)), some (.im (.int 1)), some (.im (iD (d0 :: ns'))), some (.mu (rD r)), some (.im (.int w)), some (.im (sD rs)), some (.im (.int b)), a, c]) _ _ ⟨[], none, none, ⟨List.nodup_nil, fun p hp => (nomatch hp), fun p hp => (nomatch hp)⟩, Nat.le_refl _, rfl⟩ (fun dn x rs2 e ρ hI => ?_) (fun ρ hI => ?_)
  · obtain ⟨r, ja, jc, H, hrl, rfl⟩ := hI
    obtain ⟨v, row⟩ := x
    have hmz : (v, row) ∈ ns'.zip (rs.drop b ++ rs.take b) := by rw [e]; simp
    have hrow : row ∈ rs := by
      rcases List.mem_append.mp (List.of_mem_zip hmz).2 with q | q
      · exact List.mem_of_mem_drop q
      · exact List.mem_of_mem_take q
    have hdl : dn.length ≤ 100 := by
      have h1 := take_of e
      rw [List.length_zip, List.length_append, List.length_drop, List.length_take] at h1
      omega
    refine ⟨_, fun N h => h, fun N hN => ?_⟩
    have eL : (dn ++ [(v, row)]).length = dn.length + 1 := by rw [List.length_append]; rfl
    rw [eL] at hN
    refine if_of (a := decide (v % 5 < 2 + d0 / 64 % 3)) (gv_test (gv_op (.im (.int (v % 5))) (.im (.int (2 + d0 / 64 % 3))) (gv_op (.im (.int v)) (.im (.int 5)) (fun Q q => q) (fun Q q => q) fun Q q => ⟨by show (0 : Int) < _; decide, q⟩)
      (gv_add (fun Q q => q) (gv_op (.im (.int (d0 / 64))) (.im (.int 3)) (gv_op (.im (.int d0)) (.im (.int 64)) (gd0 _ rfl) (fun Q q => q) fun Q q => ⟨⟨by decide, by decide⟩, q⟩) (fun Q q => q) fun Q q => ⟨by show (0 : Int) < _; decide, q⟩)) fun Q q => q)) (fun _ => ?_) (fun _ => hN _ ⟨r, _, _, H, by omega, rfl⟩)
    have hmod : 0 ≤ v / 5 % 3 ∧ v / 5 % 3 < 3 := ⟨Int.emod_nonneg _ (by decide), Int.emod_lt_of_pos _ (by decide)⟩
    obtain ⟨j, hj⟩ : ∃ j : Nat, v / 5 % 3 = (j : Int) := ⟨(v / 5 % 3).toNat, by omega⟩
    have hjl : j < pool.length := by rw [hp.1]; omega
    obtain ⟨H', hl', _⟩ := H.put (hmem row hrow) (hp.2 _ (List.getElem_mem hjl))
    refine put_of (r := r) (l := pool[j]) (row := row) rfl ?_ (fun Q q => q) (by omega) (hN _ ⟨_, _, _, H', by omega, rfl⟩)
    refine gv_ixL (.im (sD pool)) (i := (j : Int)) (fun Q q => q) rfl ?_ (by rw [Dl.atI_nat, List.getElem?_map, List.getElem?_eq_getElem hjl]; rfl)
    rw [← hj]
    exact gv_op (.im (.int (v / 5))) (.im (.int 3)) (gv_op (.im (.int v)) (.im (.int 5)) (fun Q q => q) (fun Q q => q) fun Q q => ⟨⟨by decide, by decide⟩, q⟩) (fun Q q => q) fun Q q => ⟨by show (0 : Int) < _; decide, q⟩
  · obtain ⟨r, ja, jc, H, hrl, rfl⟩ := hI
    dsimp only
    refine seq_ifR (a := (ksR r).isEmpty) (gv_test (gv_op (.mu (rD r)) (.nw (.dK [] [])) (fun Q q => q) (fun Q q => q) fun Q q => q)) (fun hb => ?_) (fun hb => ?_)
    · have er : r = [] := by
        cases r with
        | nil => rfl
        | cons a b => cases hb
      subst er
      obtain ⟨H', _, hne⟩ := H.put (hmem rs[b] (List.getElem_mem hbl)) (hp.2 _ (List.getElem_mem hp0))
      refine put_of (r := []) (l := pool[0]) (row := rs[b]) rfl ?_ ?_ (by decide) (fin _ H' hne)
      · exact gv_ixL (.im (sD pool)) (i := ((0 : Nat) : Int)) (fun Q q => q) rfl (fun Q q => q) (by rw [Dl.atI_nat, List.getElem?_map, List.getElem?_eq_getElem hp0]; rfl)
      · exact gv_ixL (.im (sD rs)) (i := (b : Int)) (fun Q q => q) rfl (fun Q q => q) (by rw [Dl.atI_nat, List.getElem?_map, List.getElem?_eq_getElem hbl]; rfl)
    · refine fin r H fun z => ?_
      subst z
      cases hb
end R2
set_option Elab.async false
set_option linter.all false
set_option maxRecDepth 100000
set_option maxHeartbeats 4000000
/-! The law's reading. -/
namespace R2
open PySem PySem.Spec PyProof.Rows L2 Dl M W02
def f__law_write_right : DF := fun ds P => ∃ (r : Rdr) (w : Nat) (tape : List Str) (z : Str), Good r w ∧ TapeIn w tape ∧ TextIn z ∧ ds = [rD r, sD tape, .str z] ∧ P (.bl true)
def f_write (cW cB : Addr) : DF := fun ds P => ∃ (r : Rdr) (w : Nat) (tape : List Str) (z : Str), Good r w ∧ TapeIn w tape ∧ TextIn z ∧ ds = [rD r, sD tape, .str z] ∧
  (kF r (tl z) tape < (tl z).length → P (bD cB (marksL r (tl z) tape))) ∧ (¬ kF r (tl z) tape < (tl z).length → ∀ ts, Right r w tape (tl z) ts → P (wD cW ts (iiD (highL r (tl z) tape))))
def f_law : DF := fun ds P => ∃ s : List Int, s.length ≤ 100000 ∧ ds = [iD s] ∧ P (.bl true)
def Lett (z : Str) : Prop := (∀ c ∈ tl z, c ∈ letters) ∧ z.length ≤ 1000
theorem lett_cut {z : Str} (h : Lett z) (lo hi : Option Int) : Lett ⟨(Dl.cutD z.cps.toList lo hi).toArray⟩ := by
  refine ⟨fun c hc => h.1 c ?_, ?_⟩
  · have hc : c ∈ Dl.cutD z.cps.toList lo hi := hc
    exact List.mem_of_mem_drop (List.mem_of_mem_take hc)
  · show (Dl.cutD z.cps.toList lo hi).toArray.size ≤ 1000
    rw [List.size_toArray]
    unfold Dl.cutD
    rw [List.length_take, List.length_drop, Array.length_toList]
    have : z.cps.size = z.length := rfl
    have := h.2
    omega
theorem lett_text {z : Str} (h : TextIn z) : Lett z := ⟨h.1, by have := h.2; omega⟩
theorem reads_lett {r : Rdr} {w : Nat} (g : Good r w) (tape : List Str) (h : tape.length ≤ 30) : Lett (reads r tape) ∧ (reads r tape).length ≤ 30 := by
  have : ∀ l : List Str, (∀ c ∈ (l.map (mean r)).flatMap (fun z => z.cps.toList), c ∈ letters) ∧ ((l.map (mean r)).flatMap (fun z => z.cps.toList)).length ≤ l.length := by
    intro l
    induction l with
    | nil => exact ⟨fun c hc => (nomatch hc), Nat.le_refl _⟩
    | cons a l ih =>
      rw [List.map_cons, List.flatMap_cons]
      rcases mean_of g a with e | ⟨c, e, hc⟩
      · rw [e]
        refine ⟨fun x hx => ?_, ?_⟩
        · rcases List.mem_append.mp hx with q | q
          · cases q
          · exact ih.1 x q
        · rw [List.length_append, List.length_cons]
          have : (("" : Str).cps.toList).length = 0 := rfl
          omega
      · rw [e]
        refine ⟨fun x hx => ?_, ?_⟩
        · rcases List.mem_append.mp hx with q | q
          · have q : x ∈ [c] := q
            rw [List.mem_singleton.mp q]; exact hc
          · exact ih.1 x q
        · rw [List.length_append, List.length_cons]
          have : ((L1 c).cps.toList).length = 1 := rfl
          omega
  obtain ⟨h1, h2⟩ := this tape
  have e := join_cps (tape.map (mean r))
  have h3 : (reads r tape).length ≤ 30 := by
    have : (reads r tape).length = (reads r tape).cps.toList.length := Array.length_toList.symm
    rw [this]
    unfold M.reads
    rw [e]
    omega
  refine ⟨⟨fun c hc => h1 c ?_, by omega⟩, h3⟩
  rw [← e]; exact hc
theorem for_tup {A : DA} {g : DG} {T : DTS} {DD : DEnds} {ρ : Dl.Env} (h : A ρ fun rs => allIm rs = true ∧ rs.length ≤ sizeLine ∧ forRun g T DD (rs.map R.d) ρ) : dFor (dIT (dTup A)) g T DD ρ := h
theorem cons_step {F : DE} {A : DA} {ρ : Dl.Env} {P : List R → Prop} (r : R) (h1 : Gv F ρ r) (k : A ρ fun rs => P (r :: rs)) : dCons F A ρ P := h1 _ k
theorem gv_sl {F : DE} {L U : DO} {ρ : Dl.Env} {z : Str} {lo hi : Option Int} (h : Gv F ρ (.im (.str z))) (hz : z.length ≤ 100000) (hl : ∀ Q : Option Int → Prop, Q lo → L ρ Q) (hu : ∀ Q : Option Int → Prop, Q hi → U ρ Q) : Gv (dSl F L U) ρ (.im (.str ⟨(Dl.cutD z.cps.toList lo hi).toArray⟩)) := fun Q q => h _ (hl _ (hu _ ⟨hz, q⟩))
theorem lett_rep {c : Nat} (hc : c ∈ letters) (n : Nat) (hn : n ≤ 4) : Lett (repS (L1 c) n) := by
  have e : (repS (L1 c) n).cps.toList = (List.replicate n [c]).flatten := rfl
  refine ⟨fun x hx => ?_, ?_⟩
  · have hx : x ∈ (List.replicate n [c]).flatten := hx
    rw [List.flatten_replicate_singleton] at hx
    rw [List.eq_of_mem_replicate hx]
    exact hc
  · have : (repS (L1 c) n).length = (repS (L1 c) n).cps.toList.length := Array.length_toList.symm
    rw [this, e, List.flatten_replicate_singleton, List.length_replicate]
    omega
def rq : Rdr := [(".", "q")]
theorem good_q : Good rq 1 := ⟨by decide, by decide, by decide, by decide +kernel, by decide +kernel, fun p hp => ⟨113, by
    rw [List.mem_singleton.mp hp]; rfl, by decide⟩⟩
theorem tape_q : TapeIn 1 ["o"] := ⟨by decide +kernel, by decide⟩
theorem tape_0 : TapeIn 1 [] := ⟨fun x hx => (nomatch hx), by decide⟩
theorem text_q : TextIn "q" := ⟨by decide +kernel, by decide⟩
theorem text_0 : TextIn "" := ⟨by decide +kernel, by decide⟩
theorem marks_q : marksL rq (tl "q") ["o"] = [0, 0] ∧ kF rq (tl "q") ["o"] < (tl "q").length := by decide +kernel
theorem high_0 : highL rq (tl "") [] = [[0]] ∧ ¬ kF rq (tl "") [] < (tl "").length := by decide +kernel
theorem right_0 : Right rq 1 [] (tl "") [] := ⟨rfl, fun x hx => (nomatch hx), rfl, rfl, rfl⟩
theorem p_law {K : PySem.W.Frag} {cW cB : Addr} (hi : C8.InsC K cB) (hB : Cls K cB) (hBm : NoAttr K cB "marks") (hW : Cls K cW) (hWh : NoAttr K cW "heights") : ∀ ds P, f_law ds P → runD n_law (t_law K cB f__law_pool f__law_reader f__law_width f__law_digits f__law_tape f__law_text f__law_reads f__law_write_right (f_write cW cB)) ds P := fun ds P h => by
  obtain ⟨s0, hs, rfl, h⟩ := h
  refine seq_setN (d := iD (s0.take 63)) ?_ ?_
  · intro Q q
    show Q (.nw (.lst (Dl.cutD (s0.map D.int) none (some ((63 : Nat) : Int)))))
    rw [cut_to, ← List.map_take]
    exact q
  have hsl : (s0.take 63).length ≤ 63 := by rw [List.length_take]; omega
  generalize s0.take 63 = s at hsl
  refine seq_callA [iD s, .int 0] (gva_cons (fun Q q => q) (gva_cons (fun Q q => q) gva_nil)) rfl ⟨s, 0, Int.le_refl _, rfl, fun pool hp => ?_⟩
  refine seq_for ?_
  have hp0 : 0 < pool.length := by rw [hp.1]; decide
  have hp1 : 1 < pool.length := by rw [hp.1]; decide
  obtain ⟨top, htop, et⟩ : ∃ top : Int, 2 ≤ top ∧ top ≤ 5 ∧ (if (if (s.map D.int).length < (5 : Int) then ((s.map D.int).length : Int) else 5) > 2 then (if (s.map D.int).length < (5 : Int) then ((s.map D.int).length : Int) else 5) else 2) = top := ⟨_, by split <;> omega, by split <;> split <;> omega, rfl⟩
  show (-1000000 ≤ (1 : Int) ∧ (1 : Int) ≤ 1000000 ∧ -1000000 ≤ (if (if ((s.map D.int).length : Int) < 5 then ((s.map D.int).length : Int) else 5) > 2 then (if ((s.map D.int).length : Int) < 5 then ((s.map D.int).length : Int) else 5) else 2) ∧ (if (if ((s.map D.int).length : Int) < 5 then ((s.map D.int).length : Int) else 5) > 2 then (if ((s.map D.int).length : Int) < 5 then ((s.map D.int).length : Int) else 5) else 2) ≤ 1000000 ∧ forRun _ _ _ (rangeD 1 ((if (if ((s.map D.int).length : Int) < 5 then ((s.map D.int).length : Int) else 5) > 2 then (if ((s.map D.int).length : Int) < 5 then ((s.map D.int).length : Int) else 5) else 2) - 1).toNat) _)
  rw [et.2]
  refine ⟨by decide, by decide, by omega, by omega, ?_⟩
  unfold rangeD
  refine for_inv' _ (fun dn ρ => ∃ a b c d e f g i j : Option L, ρ = [some (.im (iD s)), some (.im (sD pool)), a, b, c, d, e, f, g, i, j]) (List.range (top - 1).toNat) _ ⟨none, none, none, none, none, none, none, none, none, rfl⟩ (fun dn by_ rs e ρ hI => ?_) (fun ρ hI => ?_)
  · obtain ⟨a, b, c, d, e', f, g', i, j, rfl⟩ := hI
    refine ⟨_, fun N h => h, fun N hN => ?_⟩
    refine seq_callA [iD s, .int (1 + (by_ : Int)), sD pool, .int 1] (gva_cons (fun Q q => q) (gva_cons (fun Q q => q) (gva_cons (fun Q q => q) (gva_cons (fun Q q => q) gva_nil)))) rfl ⟨s, _, pool, by omega, hp, rfl, fun r w g => ?_⟩
    refine seq_par2A [rD r] (gva_cons (fun Q q => q) gva_nil) rfl ⟨r, w, g, rfl, ?_⟩
    refine call_all [iD s, .int (1 + (by_ : Int) + 1), .int 4, .int 1009] (gva_cons (fun Q q => q) (gva_cons (gv_add (fun Q q => q) (fun Q q => q)) (gva_cons (fun Q q => q) (gva_cons (fun Q q => q) gva_nil)))) rfl ⟨s, _, 4, 1009, by omega, by decide, by decide, by decide, rfl, fun ns hl hr => ?_⟩
    dsimp only [dStAll, dSt]
    have gi : ∀ (i : Nat) (hi : i < ns.length) (ρ : Dl.Env), ρ[5]? = some (some (.im (iD ns))) → Gv (dOp oIx (dVar 5) (dC (.int (i : Nat)))) ρ (.im (.int ns[i])) := fun i hi ρ e =>
      gv_ixL (.im (iD ns)) (i := (i : Int)) (fun Q q => by show dVar 5 ρ Q; unfold dVar; rw [e]; exact q) rfl (fun Q q => q) (by rw [Dl.atI_nat, List.getElem?_map, List.getElem?_eq_getElem hi]; rfl)
    have h0 : 0 < ns.length := by rw [hl]; decide
    have h1 : 1 < ns.length := by rw [hl]; decide
    have h2 : 2 < ns.length := by rw [hl]; decide
    have h3 : 3 < ns.length := by rw [hl]; decide
    have gm : ∀ {F : DE} {ρ : Dl.Env} {i m : Int}, 0 < m → Gv F ρ (.im (.int i)) → Gv (dOp oMod F (dC (.int m))) ρ (.im (.int (i % m))) := fun hm hF => gv_op _ _ hF (fun Q q => q) fun Q q => ⟨hm, q⟩
    obtain ⟨m, hm30, hmv⟩ : ∃ m : Nat, m ≤ 30 ∧ (m : Int) = (if (ns[3] % 40 == 0) = true then (30 : Int) else ns[0] % 10) := by
      refine ⟨(if (ns[3] % 40 == 0) = true then (30 : Int) else ns[0] % 10).toNat, ?_, ?_⟩ <;> split <;> omega
    refine seq_callA [iD s, .int (1 + (by_ : Int) + 2), .int w, .int m] (gva_cons (fun Q q => q) (gva_cons (gv_add (fun Q q => q) (fun Q q => q)) (gva_cons (fun Q q => q) (gva_cons (fun Q q => ?_) gva_nil)))) rfl ⟨s, _, w, m, by omega, by have := g.w4; omega, hm30, rfl, fun tape ht => ?_⟩
    · refine ife_of (a := (ns[3] % 40 == 0)) (gv_test (gv_op (.im (.int (ns[3] % 40))) (.im (.int 0)) (gm (by decide) (gi 3 h3 _ rfl)) (fun Q q => q) fun Q q => q)) (fun hb => ?_) (fun hb => ?_)
      · rw [hmv, if_pos hb] at q
        exact q
      · rw [hmv, if_neg (by rw [hb]; exact Bool.false_ne_true)] at q
        exact gm (by decide) (gi 0 h0 _ rfl) _ q
    have htl := ht.2
    obtain ⟨m2, hm2, hmv2⟩ : ∃ m : Nat, m ≤ 30 ∧ (m : Int) = ns[1] % ((tape.length : Int) + 2) % 31 := by
      refine ⟨(ns[1] % ((tape.length : Int) + 2) % 31).toNat, ?_, ?_⟩ <;> omega
    refine seq_callA [iD s, .int (1 + (by_ : Int) + 3), sD pool, .int m2] (gva_cons (fun Q q => q) (gva_cons (gv_add (fun Q q => q) (fun Q q => q)) (gva_cons (fun Q q => q) (gva_cons ?_ gva_nil)))) rfl ⟨s, _, pool, m2, by omega, hp, hm2, rfl, fun z hz => ?_⟩
    · rw [hmv2]
      refine gm (by decide) (gv_op (.im (.int ns[1])) (.im (.int ((tape.length : Int) + 2))) (gi 1 h1 _ rfl) (gv_add (fun Q q => ?_) (fun Q q => q)) fun Q q => ⟨by show (0 : Int) < _; omega, q⟩)
      show Q (.im (.int ((tape.map D.str).length : Nat)))
      rw [List.length_map]
      exact q
    refine seq_set (d := .str (reads r tape)) (gv_call [rD r, sD tape] (gva_cons (fun Q q => q) (gva_cons (fun Q q => q) gva_nil)) rfl (fun P q => ⟨r, w, tape, g, by omega, rfl, q⟩)) ?_
    have lz := lett_text hz
    obtain ⟨lr, hrl⟩ := reads_lett g tape htl
    have hzl := lz.2
    obtain ⟨c0, hc0, hc0'⟩ := hp.2 _ (List.getElem_mem hp0)
    obtain ⟨c1, hc1, hc1'⟩ := hp.2 _ (List.getElem_mem hp1)
    refine for_tup ?_
    refine cons_step (.im (.str z)) (fun Q q => q) ?_
    refine cons_step (.im (.str ⟨(Dl.cutD z.cps.toList none (some (1 + ns[2] % 3))).toArray⟩)) (gv_sl (fun Q q => q) (by omega) (fun Q q => q) fun Q q => gv_add (fun Q q => q) (gm (by decide) (gi 2 h2 _ rfl)) _ q) ?_
    refine cons_step (.im (.str (reads r tape))) (fun Q q => q) ?_
    refine cons_step (.im (.str ⟨(Dl.cutD (reads r tape).cps.toList (some 1) none).toArray⟩)) (gv_sl (fun Q q => q) (by omega) (fun Q q => q) fun Q q => q) ?_
    show _ ∧ _
    refine ⟨by omega, fun u hu1 hu2 => ?_⟩
    have gp0 : ∀ ρ : Dl.Env, ρ[1]? = some (some (.im (sD pool))) → Gv (dOp oIx (dVar 1) (dC (.int 0))) ρ (.im (.str pool[0])) := fun ρ e =>
      gv_ixL (.im (sD pool)) (i := ((0 : Nat) : Int)) (fun Q q => by show dVar 1 ρ Q; unfold dVar; rw [e]; exact q) rfl (fun Q q => q) (by rw [Dl.atI_nat, List.getElem?_map, List.getElem?_eq_getElem hp0]; rfl)
    have gp1 : ∀ ρ : Dl.Env, ρ[1]? = some (some (.im (sD pool))) → Gv (dOp oIx (dVar 1) (dC (.int 1))) ρ (.im (.str pool[1])) := fun ρ e =>
      gv_ixL (.im (sD pool)) (i := ((1 : Nat) : Int)) (fun Q q => by show dVar 1 ρ Q; unfold dVar; rw [e]; exact q) rfl (fun Q q => q) (by rw [Dl.atI_nat, List.getElem?_map, List.getElem?_eq_getElem hp1]; rfl)
    refine gp0 _ rfl _ ?_
    rw [hc0]
    refine ⟨by show u.length + 1 ≤ 100000; omega, ?_⟩
    have h5 : 0 ≤ ns[2] % 5 ∧ ns[2] % 5 < 5 := ⟨Int.emod_nonneg _ (by decide), Int.emod_lt_of_pos _ (by decide)⟩
    refine cons_step (.im (.str (repS (L1 c1) (ns[2] % 5).toNat))) (gv_op (.im (.str (L1 c1))) (.im (.int (ns[2] % 5))) (by rw [← hc1]; exact gp1 _ rfl) (gm (by decide) (gi 2 h2 _ rfl)) fun Q q => ⟨by omega, by omega, by show 1 ≤ 1000; decide, q⟩) ?_
    refine ⟨rfl, by show 6 ≤ sizeLine; decide, ?_⟩
    have lu : Lett (u ++ L1 c0) := by
      have ecps : (u ++ L1 c0).cps.toList = u.cps.toList ++ [c0] := by
        show (u.cps ++ #[c0]).toList = _
        simp
      refine ⟨fun x hx => ?_, ?_⟩
      · have hx : x ∈ u.cps.toList ++ [c0] := by rw [← ecps]; exact hx
        rcases List.mem_append.mp hx with q | q
        · exact lr.1 x (hu2 x q)
        · rw [List.mem_singleton.mp q]; exact hc0'
      · have : (u ++ L1 c0).length = (u ++ L1 c0).cps.toList.length := Array.length_toList.symm
        rw [this, ecps, List.length_append, Array.length_toList]
        have : u.cps.size = u.length := rfl
        show u.cps.size + 1 ≤ 1000
        omega
    have lc1 : Lett (repS (L1 c1) (ns[2] % 5).toNat) := lett_rep hc1' _ (by omega)
    have lall : ∀ x ∈ [z, ⟨(Dl.cutD z.cps.toList none (some (1 + ns[2] % 3))).toArray⟩, reads r tape, ⟨(Dl.cutD (reads r tape).cps.toList (some 1) none).toArray⟩, u ++ L1 c0, repS (L1 c1) (ns[2] % 5).toNat], Lett x := by
      intro x hx
      simp only [List.mem_cons, List.not_mem_nil, or_false] at hx
      rcases hx with rfl | rfl | rfl | rfl | rfl | rfl
      · exact lz
      · exact lett_cut lz _ _
      · exact lr
      · exact lett_cut lr _ _
      · exact lu
      · exact lc1
    show forRun _ _ _ ([z, ⟨(Dl.cutD z.cps.toList none (some (1 + ns[2] % 3))).toArray⟩, reads r tape, ⟨(Dl.cutD (reads r tape).cps.toList (some 1) none).toArray⟩, u ++ L1 c0, repS (L1 c1) (ns[2] % 5).toNat].map D.str) _
    generalize [z, ⟨(Dl.cutD z.cps.toList none (some (1 + ns[2] % 3))).toArray⟩, reads r tape, ⟨(Dl.cutD (reads r tape).cps.toList (some 1) none).toArray⟩, u ++ L1 c0, repS (L1 c1) (ns[2] % 5).toNat] = six at lall
    refine for_inv' D.str (fun dm ρ => ∃ q t : Option L, ρ = [some (.im (iD s)), some (.im (sD pool)), some (.im (.int (1 + (by_ : Int)))), some (.im (rD r)), some (.im (.int w)), some (.im (iD ns)), some (.im (sD tape)), some (.im (.str z)), some (.im (.str (reads r tape))), q, t]) six _ ⟨_, _, rfl⟩ (fun dm x rs2 e2 ρ hI => ?_) (fun ρ hI => ?_)
    · obtain ⟨q, t, rfl⟩ := hI
      have lx := lall x (by rw [e2]; simp)
      have lxl := lx.2
      refine ⟨_, fun N h => h, fun N' hN' => ?_⟩
      have hcut : TextIn ⟨(Dl.cutD x.cps.toList none (some 30)).toArray⟩ := by
        refine ⟨(lett_cut lx none (some 30)).1, ?_⟩
        show (Dl.cutD x.cps.toList none (some ((30 : Nat) : Int))).toArray.size ≤ 30
        rw [List.size_toArray, cut_to, List.length_take]
        exact Nat.min_le_left _ _
      refine if_of (a := !true) (gv_notT (gv_test (gv_call [rD r, sD tape, .str ⟨(Dl.cutD x.cps.toList none (some 30)).toArray⟩] (gva_cons (fun Q q => q) (gva_cons (fun Q q => q) (gva_cons (gv_sl (fun Q q => q) (by omega) (fun Q q => q) fun Q q => q) gva_nil))) rfl (fun P q => ⟨r, w, tape, _, g, ht, hcut, rfl, q⟩)))) (fun h => by cases h) (fun _ => hN' _ ⟨_, _, rfl⟩)
    · obtain ⟨q, t, rfl⟩ := hI
      exact hN _ ⟨_, _, _, _, _, _, _, _, _, rfl⟩
  · obtain ⟨a, b, c, d, e, f, g, i, j, rfl⟩ := hI
    dsimp only
    have eD : D.dK [Sum.inr "."] [D.str "q"] = rD rq := rfl
    refine seq_callA [rD rq, sD ["o"], .str "q"] (gva_fz (d := rD rq) (fun Q q => q) (gva_fz (gv_lst [.str "o"] (gva_cons (fun Q q => q) gva_nil) (by simp)) (gva_cons (fun Q q => q) gva_nil))) rfl ⟨rq, 1, ["o"], "q", good_q, tape_q, text_q, rfl, fun _ => ?_, fun z => absurd marks_q.2 z⟩
    rw [marks_q.1]
    refine ret_im (d := .bl true) ?_ h
    refine gv_and (a := true) (b := (true && true)) (fun Q q => ⟨true, hi, hi.me, q⟩) fun _ => gv_and (fun Q q => ?_) fun _ Q q => ?_
    · refine ⟨hB, hBm, ?_⟩
      exact gv_lst [.int 0, .int 0] (gva_cons (fun Q q => q) (gva_cons (fun Q q => q) gva_nil)) (by simp) _ ⟨.list [.int 0, .int 0], .list [.int 0, .int 0], true, rfl, rfl, by decide +kernel, by decide +kernel, by decide +kernel, q⟩
    · unfold dOp dFld
      refine call_all [rD rq, sD [], .str ""] (gva_fz (d := rD rq) (fun Q q => q) (gva_fz gv_nil (gva_cons (fun Q q => q) gva_nil))) rfl ⟨rq, 1, [], "", good_q, tape_0, text_0, rfl, fun z => absurd z high_0.2, fun _ ts _ => ?_⟩
      rw [high_0.1]
      refine ⟨hW, hWh, ?_⟩
      exact gv_lst [.lst [.int 0]] (gva_fz (gv_lst [.int 0] (gva_cons (fun Q q => q) gva_nil) (by simp)) gva_nil) (by simp) _ ⟨.list [.list [.int 0]], .list [.list [.int 0]], true, rfl, rfl, by decide +kernel, by decide +kernel, by decide +kernel, q⟩
end R2
set_option Elab.async false
set_option linter.all false
set_option maxRecDepth 100000
set_option maxHeartbeats 4000000
/-! The kinds of what is told. -/
namespace R2
open PySem PySem.Spec PyProof.Rows L2 Dl M W02
/-- what isinstance answers of the class at C -/
structure Kin (K : PySem.W.Frag) (C : Addr) (cW cB cS cN cE cR cA : Addr) (b1 b2 : Bool) : Prop where
  ins : C8.InsC K C
  w : PySem.W.kitOne K (.ref C) (.ref cW) = some b1
  b : PySem.W.kitOne K (.ref C) (.ref cB) = some b2
  s : PySem.W.kitOne K (.ref C) (.ref cS) = some false
  n : PySem.W.kitOne K (.ref C) (.ref cN) = some false
  e : PySem.W.kitOne K (.ref C) (.ref cE) = some false
  r : PySem.W.kitOne K (.ref C) (.ref cR) = some false
  a : PySem.W.kitOne K (.ref C) (.ref cA) = some true
def kindsOf (b1 b2 : Bool) : List Bool := [b1, b2, false, false, false, false, false]
def f__law_kinds (C : Addr) (b1 b2 : Bool) : DF := fun ds P => ∃ (ns : List Str) (fs : List D), ds = [.ins C ns fs] ∧ P (.lst ((kindsOf b1 b2).map D.bl))
theorem p__law_kinds {K : PySem.W.Frag} {C cW cB cS cN cE cR cA : Addr} {b1 b2 : Bool} (k : Kin K C cW cB cS cN cE cR cA b1 b2) : ∀ ds P, f__law_kinds C b1 b2 ds P → runD n__law_kinds (t__law_kinds K cA cB cE cR cN cS cW) ds P := fun ds P h => by
  obtain ⟨ns, fs, rfl, h⟩ := h
  have q : ∀ {X : Addr} {b : Bool} {ρ : Dl.Env}, ρ[0]? = some (some (.im (.ins C ns fs))) → PySem.W.kitOne K (.ref C) (.ref X) = some b → Gv (dCB (call2 (fIsiC K)) (dCons (dVar 0) (dCons (dC (.at X)) dNil))) ρ (.im (.bl b)) := fun e hk Q q => by
    unfold dCB dCons dVar
    rw [e]
    exact ⟨_, k.ins, hk, q⟩
  refine seq_setN (d := .lst [.bl b1, .bl b2, .bl false, .bl false]) ?_ ?_
  · exact gv_lst _ (gva_cons (q rfl k.w) (gva_cons (q rfl k.b) (gva_cons (q rfl k.s) (gva_cons (q rfl k.n) gva_nil)))) (by simp)
  refine ret_nw (d := .lst ((kindsOf b1 b2).map D.bl)) (fun Q hq => ?_) h
  refine gv_op (.im (.lst [.bl b1, .bl b2, .bl false, .bl false])) (.nw (.lst [.bl false, .bl false, .bl false])) (fun Q q => q) (gv_lst _ (gva_cons (q rfl k.e) (gva_cons (q rfl k.r) (gva_cons (gv_not (q rfl k.a)) gva_nil))) (by simp)) (fun Q q => ⟨by show 4 + 3 ≤ 100000; decide, q⟩) Q hq
end R2
set_option Elab.async false
set_option linter.all false
set_option maxRecDepth 100000
set_option maxHeartbeats 4000000
/-! The walks, printed by gen02.py. -/
namespace W02
open PySem PySem.Spec PyProof.Rows L2 Dl
def top (i : Nat) : Stmt := PySem.Challenge.pw_holetape_k02_whole_written.main.body.getD i (.Pass ⟨0, 0, 0, 0⟩)
/-- what the module's names hold -/
structure Txt (K : PySem.W.Frag) (mg : Str → Option Value) : Type where
  len : mg "len" = none
  abs : mg "abs" = none
  sum : mg "sum" = none
  any : mg "any" = none
  all : mg "all" = none
  min : mg "min" = none
  max : mg "max" = none
  sorted : mg "sorted" = none
  isinstance : mg "isinstance" = none
  range : mg "range" = none
  enumerate : mg "enumerate" = none
  zip : mg "zip" = none
  reversed : mg "reversed" = none
  int_ : mg "int" = none
  str_ : mg "str" = none
  list_ : mg "list" = none
  dict_ : mg "dict" = none
  bool_ : mg "bool" = none
  HOLE : ∃ u, mg "HOLE" = some u ∧ RelV (.str k_HOLE) u
  BLANK : ∃ u, mg "BLANK" = some u ∧ RelV (.str k_BLANK) u
  LETTERS : ∃ u, mg "LETTERS" = some u ∧ RelV (.str k_LETTERS) u
  WIDEST : ∃ u, mg "WIDEST" = some u ∧ RelV (.int k_WIDEST) u
  MOST : ∃ u, mg "MOST" = some u ∧ RelV (.int k_MOST) u
  FAR : ∃ u, mg "FAR" = some u ∧ RelV (.int k_FAR) u
  c_Written : Addr
  a_Written : ∃ u, mg "Written" = some u ∧ RelV (.ref c_Written) u
  c_Barred : Addr
  a_Barred : ∃ u, mg "Barred" = some u ∧ RelV (.ref c_Barred) u
  c_Stood : Addr
  a_Stood : ∃ u, mg "Stood" = some u ∧ RelV (.ref c_Stood) u
  c_Never : Addr
  a_Never : ∃ u, mg "Never" = some u ∧ RelV (.ref c_Never) u
  c_Bears : Addr
  a_Bears : ∃ u, mg "Bears" = some u ∧ RelV (.ref c_Bears) u
  c_Breaks : Addr
  a_Breaks : ∃ u, mg "Breaks" = some u ∧ RelV (.ref c_Breaks) u
  c_Answer : Addr
  a_Answer : ∃ u, mg "Answer" = some u ∧ RelV (.ref c_Answer) u
section
variable {P : Program} {w : World} {K : PySem.W.Frag} {mg : Str → Option Value} {base : Heap}
theorem sc_is_row : FnScope n_is_row ["thing", "width"] (defScope (top 11)) := ⟨rfl, rfl, rfl, by decide +kernel, rfl, by decide +kernel, by decide +kernel⟩
theorem c_is_row (T : Txt K mg) (D : De K mg "is_row" (top 11)) : C8.Cal P w K mg base 1 "is_row" (spD 2 (runD n_is_row (t_is_row))) [] := by
  obtain ⟨f, fd, F, hm⟩ := D.ex
  refine ⟨f, fd, ["thing", "width"], [], fnD F sc_is_row (fun cdv A outer s H E hr => ?_), hm, F.kp, F.bindsN (fun _ _ _ _ _ _ us hl => match us, hl with | [_, _], _ => rfl), .nil⟩
  exact (xss_one (xs_ret (xe_and (xe_isi (by rfl) T.isinstance (xa_cons (xe_var 0) (xa_cons (xe_ty (n := "str") (by rfl) T.str_ (by decide +kernel) rfl) xa_nil))) (xe_and (xe_eq (xe_len (by rfl) T.len (xa_cons (xe_var 0) xa_nil)) (xe_var 1)) (xe_one (xe_all (by rfl) (by rfl) T.all (xa_cons (xe_lc rfl sc_is_row.nd (xi_str (xe_var 0)) (blkOk_by (own := [("sign", 2)]) (by kernel_rfl)) (by decide) (fun _ _ _ _ _ => (xg_st false (i := 2) sc_is_row.nd rfl (by first | exact Or.inl rfl | exact Or.inr rfl))) (fun _ _ _ _ _ => xts_nil) (fun _ _ _ _ _ => (xe_in (xe_var 2) (xe_tup (xa_cons (xe_gstr (by rfl) T.HOLE) (xa_cons (xe_gstr (by rfl) T.BLANK) xa_nil)))))) xa_nil)))))))
theorem sc_is_letter : FnScope n_is_letter ["thing"] (defScope (top 12)) := ⟨rfl, rfl, rfl, by decide +kernel, rfl, by decide +kernel, by decide +kernel⟩
theorem c_is_letter (T : Txt K mg) (D : De K mg "is_letter" (top 12)) : C8.Cal P w K mg base 1 "is_letter" (spD 1 (runD n_is_letter (t_is_letter))) [] := by
  obtain ⟨f, fd, F, hm⟩ := D.ex
  refine ⟨f, fd, ["thing"], [], fnD F sc_is_letter (fun cdv A outer s H E hr => ?_), hm, F.kp, F.bindsN (fun _ _ _ _ _ _ us hl => match us, hl with | [_], _ => rfl), .nil⟩
  exact (xss_one (xs_ret (xe_and (xe_isi (by rfl) T.isinstance (xa_cons (xe_var 0) (xa_cons (xe_ty (n := "str") (by rfl) T.str_ (by decide +kernel) rfl) xa_nil))) (xe_and (xe_eq (xe_len (by rfl) T.len (xa_cons (xe_var 0) xa_nil)) xe_int) (xe_one (xe_inS (xe_var 0) (xe_gstr (by rfl) T.LETTERS)))))))
theorem sc_width_of : FnScope n_width_of ["reader"] (defScope (top 13)) := ⟨rfl, rfl, rfl, by decide +kernel, rfl, by decide +kernel, by decide +kernel⟩
theorem c_width_of {f_is_row : DF} {f_is_letter : DF} (T : Txt K mg) (D : De K mg "width_of" (top 13)) (c_is_row : C8.Cal P w K mg base 1 "is_row" (spD 2 f_is_row) []) (c_is_letter : C8.Cal P w K mg base 1 "is_letter" (spD 1 f_is_letter) []) : C8.Cal P w K mg base 2 "width_of" (spD 1 (runD n_width_of (t_width_of f_is_row f_is_letter))) [] := by
  obtain ⟨f, fd, F, hm⟩ := D.ex
  refine ⟨f, fd, ["reader"], [], fnD F sc_width_of (fun cdv A outer s H E hr => ?_), hm, F.kp, F.bindsN (fun _ _ _ _ _ _ us hl => match us, hl with | [_], _ => rfl), .nil⟩
  exact (xss_cons (xs_if (xt_w (xw_or (xt_not (xt_val (xe_isi (by rfl) T.isinstance (xa_cons (xe_var 0) (xa_cons (xe_ty (n := "dict") (by rfl) T.dict_ (by decide +kernel) rfl) xa_nil))))) (xw_or1 (xt_eqE (Room.u0 hr) (xe_var 0) xe_newK)))) (xss_one xs_never) xss_nil)
      (xss_cons (xs_set false (i := 1) sc_width_of.nd rfl (by first | exact Or.inl rfl | exact Or.inr rfl) (xe_idx (xe_list (by rfl) (by rfl) T.list_ (xa_cons (xe_var 0) xa_nil)) xe_int))
      (xss_cons (xs_set false (i := 2) sc_width_of.nd rfl (by first | exact Or.inl rfl | exact Or.inr rfl) (xe_if (xt_val (xe_isi (by rfl) T.isinstance (xa_cons (xe_var 1) (xa_cons (xe_ty (n := "str") (by rfl) T.str_ (by decide +kernel) rfl) xa_nil)))) (xe_len (by rfl) T.len (xa_cons (xe_var 1) xa_nil)) xe_int))
      (xss_cons (xs_items (i := 0) PassesOwn.never rfl rfl (by first | exact Or.inl rfl | exact Or.inr (Or.inl rfl) | exact Or.inr (Or.inr rfl)) (xg_tup rfl (xgs_cons (xg_st false (i := 3) sc_width_of.nd rfl (by first | exact Or.inl rfl | exact Or.inr rfl)) (xgs_cons (xg_st false (i := 4) sc_width_of.nd rfl (by first | exact Or.inl rfl | exact Or.inr rfl)) xgs_nil)) gl_two) (xss_one (xs_if (xt_w (xw_or (xt_not (xt_leLe xe_int (xe_var 2) (xe_gint (by rfl) T.WIDEST))) (xw_or (xt_not (xt_val (xe_call c_is_row hr (by decide) (by rfl) (xa_cons (xe_var 3) (xa_cons (xe_var 2) xa_nil))))) (xw_or (xt_notInS (xe_gstr (by rfl) T.BLANK) (xe_var 3)) (xw_or1 (xt_not (xt_val (xe_call c_is_letter hr (by decide) (by rfl) (xa_cons (xe_var 4) xa_nil))))))))) (xss_one xs_never) xss_nil)) (pv 0))
      (xss_one (xs_ret (xe_var 2)))))))
theorem sc_check_tape : FnScope n_check_tape ["width", "tape"] (defScope (top 14)) := ⟨rfl, rfl, rfl, by decide +kernel, rfl, by decide +kernel, by decide +kernel⟩
theorem c_check_tape {f_is_row : DF} (T : Txt K mg) (D : De K mg "check_tape" (top 14)) (c_is_row : C8.Cal P w K mg base 1 "is_row" (spD 2 f_is_row) []) : C8.Cal P w K mg base 2 "check_tape" (spD 2 (runD n_check_tape (t_check_tape f_is_row))) [] := by
  obtain ⟨f, fd, F, hm⟩ := D.ex
  refine ⟨f, fd, ["width", "tape"], [], fnD F sc_check_tape (fun cdv A outer s H E hr => ?_), hm, F.kp, F.bindsN (fun _ _ _ _ _ _ us hl => match us, hl with | [_, _], _ => rfl), .nil⟩
  exact (xss_cons (xs_if (xt_not (xt_val (xe_isi (by rfl) T.isinstance (xa_cons (xe_var 1) (xa_cons (xe_ty (n := "list") (by rfl) T.list_ (by decide +kernel) rfl) xa_nil))))) (xss_one xs_never) xss_nil)
      (xss_one (xs_for PassesOwn.never rfl (xi_enum (by rfl) T.enumerate (xe_var 1)) (xg_tup rfl (xgs_cons (xg_st false (i := 2) sc_check_tape.nd rfl (by first | exact Or.inl rfl | exact Or.inr rfl)) (xgs_cons (xg_st false (i := 3) sc_check_tape.nd rfl (by first | exact Or.inl rfl | exact Or.inr rfl)) xgs_nil)) gl_two) (xss_one (xs_if (xt_w (xw_or (xt_eq (xe_var 2) (xe_gint (by rfl) T.MOST)) (xw_or1 (xt_not (xt_val (xe_call c_is_row hr (by decide) (by rfl) (xa_cons (xe_var 3) (xa_cons (xe_var 0) xa_nil)))))))) (xss_one xs_never) xss_nil)))))
theorem sc_check_text : FnScope n_check_text ["text"] (defScope (top 15)) := ⟨rfl, rfl, rfl, by decide +kernel, rfl, by decide +kernel, by decide +kernel⟩
theorem c_check_text (T : Txt K mg) (D : De K mg "check_text" (top 15)) : C8.Cal P w K mg base 1 "check_text" (spD 1 (runD n_check_text (t_check_text))) [] := by
  obtain ⟨f, fd, F, hm⟩ := D.ex
  refine ⟨f, fd, ["text"], [], fnD F sc_check_text (fun cdv A outer s H E hr => ?_), hm, F.kp, F.bindsN (fun _ _ _ _ _ _ us hl => match us, hl with | [_], _ => rfl), .nil⟩
  exact (xss_cons (xs_if (xt_not (xt_val (xe_isi (by rfl) T.isinstance (xa_cons (xe_var 0) (xa_cons (xe_ty (n := "str") (by rfl) T.str_ (by decide +kernel) rfl) xa_nil))))) (xss_one xs_never) xss_nil)
      (xss_one (xs_for PassesOwn.never rfl (xi_enumS (by rfl) T.enumerate (xe_var 0)) (xg_tup rfl (xgs_cons (xg_st false (i := 1) sc_check_text.nd rfl (by first | exact Or.inl rfl | exact Or.inr rfl)) (xgs_cons (xg_st false (i := 2) sc_check_text.nd rfl (by first | exact Or.inl rfl | exact Or.inr rfl)) xgs_nil)) gl_two) (xss_one (xs_if (xt_w (xw_or (xt_eq (xe_var 1) (xe_gint (by rfl) T.MOST)) (xw_or1 (xt_notInS (xe_var 2) (xe_gstr (by rfl) T.LETTERS))))) (xss_one xs_never) xss_nil)))))
theorem sc_goes_over : FnScope n_goes_over ["row", "other"] (defScope (top 16)) := ⟨rfl, rfl, rfl, by decide +kernel, rfl, by decide +kernel, by decide +kernel⟩
theorem c_goes_over (T : Txt K mg) (D : De K mg "goes_over" (top 16)) : C8.Cal P w K mg base 1 "goes_over" (spD 2 (runD n_goes_over (t_goes_over))) [] := by
  obtain ⟨f, fd, F, hm⟩ := D.ex
  refine ⟨f, fd, ["row", "other"], [], fnD F sc_goes_over (fun cdv A outer s H E hr => ?_), hm, F.kp, F.bindsN (fun _ _ _ _ _ _ us hl => match us, hl with | [_, _], _ => rfl), .nil⟩
  exact (xss_one (xs_ret (xe_not (xe_any (by rfl) (by rfl) T.any (xa_cons (xe_lc rfl sc_goes_over.nd (xi_zipS (by rfl) T.zip (xe_var 0) (xe_var 1)) (blkOk_by (own := [("one", 2), ("new", 3)]) (by kernel_rfl)) (by decide) (fun _ _ _ _ _ => (xg_tup rfl (xgs_cons (xg_st false (i := 2) sc_goes_over.nd rfl (by first | exact Or.inl rfl | exact Or.inr rfl)) (xgs_cons (xg_st false (i := 3) sc_goes_over.nd rfl (by first | exact Or.inl rfl | exact Or.inr rfl)) xgs_nil)) gl_two)) (fun _ _ _ _ _ => xts_nil) (fun _ _ _ _ _ => (xe_and (xe_eq (xe_var 2) (xe_gstr (by rfl) T.HOLE)) (xe_one (xe_eq (xe_var 3) (xe_gstr (by rfl) T.BLANK)))))) xa_nil)))))
theorem sc_cost_of : FnScope n_cost_of ["row", "other"] (defScope (top 17)) := ⟨rfl, rfl, rfl, by decide +kernel, rfl, by decide +kernel, by decide +kernel⟩
theorem c_cost_of (T : Txt K mg) (D : De K mg "cost_of" (top 17)) : C8.Cal P w K mg base 1 "cost_of" (spD 2 (runD n_cost_of (t_cost_of))) [] := by
  obtain ⟨f, fd, F, hm⟩ := D.ex
  refine ⟨f, fd, ["row", "other"], [], fnD F sc_cost_of (fun cdv A outer s H E hr => ?_), hm, F.kp, F.bindsN (fun _ _ _ _ _ _ us hl => match us, hl with | [_, _], _ => rfl), .nil⟩
  exact (xss_one (xs_ret (xe_sub (xe_count (pe_bm PySem.F.plainAttrs_str PySem.F.slot_str_count PySem.F.type_str_count mt_count (xe_var 1) (pa_cons (xe_gstr (by rfl) T.HOLE) pa_nil))) (xe_count (pe_bm PySem.F.plainAttrs_str PySem.F.slot_str_count PySem.F.type_str_count mt_count (xe_var 0) (pa_cons (xe_gstr (by rfl) T.HOLE) pa_nil))))))
theorem sc_rows_of : FnScope n_rows_of ["width"] (defScope (top 18)) := ⟨rfl, rfl, rfl, by decide +kernel, rfl, by decide +kernel, by decide +kernel⟩
theorem c_rows_of (T : Txt K mg) (D : De K mg "rows_of" (top 18)) : C8.Cal P w K mg base 1 "rows_of" (spD 1 (runD n_rows_of (t_rows_of))) [] := by
  obtain ⟨f, fd, F, hm⟩ := D.ex
  refine ⟨f, fd, ["width"], [], fnD F sc_rows_of (fun cdv A outer s H E hr => ?_), hm, F.kp, F.bindsN (fun _ _ _ _ _ _ us hl => match us, hl with | [_], _ => rfl), .nil⟩
  exact (xss_cons (xs_set false (i := 1) sc_rows_of.nd rfl (by first | exact Or.inl rfl | exact Or.inr rfl) (xe_lst (xa_cons xe_str xa_nil)))
      (xss_cons (xs_for PassesOwn.never rfl (xi_range1 (by rfl) T.range (xe_var 0)) (xg_st false (i := 2) sc_rows_of.nd rfl (by first | exact Or.inl rfl | exact Or.inr rfl)) (xss_one (xs_set false (i := 1) sc_rows_of.nd rfl (by first | exact Or.inl rfl | exact Or.inr rfl) (xe_cat (xe_lc rfl sc_rows_of.nd (xi_list (xe_var 1)) (blkOk_by (own := [("row", 3)]) (by kernel_rfl)) (by decide) (fun _ _ _ _ _ => (xg_st false (i := 3) sc_rows_of.nd rfl (by first | exact Or.inl rfl | exact Or.inr rfl))) (fun _ _ _ _ _ => xts_nil) (fun _ _ _ _ _ => (xe_catS (xe_var 3) (xe_gstr (by rfl) T.BLANK)))) (xe_lc rfl sc_rows_of.nd (xi_list (xe_var 1)) (blkOk_by (own := [("row", 3)]) (by kernel_rfl)) (by decide) (fun _ _ _ _ _ => (xg_st false (i := 3) sc_rows_of.nd rfl (by first | exact Or.inl rfl | exact Or.inr rfl))) (fun _ _ _ _ _ => xts_nil) (fun _ _ _ _ _ => (xe_catS (xe_var 3) (xe_gstr (by rfl) T.HOLE))))))))
      (xss_one (xs_ret (xe_sortS (by rfl) T.sorted (xa_cons (xe_var 1) xa_nil))))))
theorem sc_above : FnScope n_above ["row"] (defScope (top 19)) := ⟨rfl, rfl, rfl, by decide +kernel, rfl, by decide +kernel, by decide +kernel⟩
theorem c_above {f_rows_of : DF} {f_goes_over : DF} (T : Txt K mg) (D : De K mg "above" (top 19)) (c_rows_of : C8.Cal P w K mg base 1 "rows_of" (spD 1 f_rows_of) []) (c_goes_over : C8.Cal P w K mg base 1 "goes_over" (spD 2 f_goes_over) []) : C8.Cal P w K mg base 2 "above" (spD 1 (runD n_above (t_above f_rows_of f_goes_over))) [] := by
  obtain ⟨f, fd, F, hm⟩ := D.ex
  refine ⟨f, fd, ["row"], [], fnD F sc_above (fun cdv A outer s H E hr => ?_), hm, F.kp, F.bindsN (fun _ _ _ _ _ _ us hl => match us, hl with | [_], _ => rfl), .nil⟩
  exact (xss_one (xs_ret (xe_lc rfl sc_above.nd (xi_list (xe_call c_rows_of hr (by decide) (by rfl) (xa_cons (xe_len (by rfl) T.len (xa_cons (xe_var 0) xa_nil)) xa_nil))) (blkOk_by (own := [("other", 1)]) (by kernel_rfl)) (by decide) (fun _ _ _ _ _ => (xg_st false (i := 1) sc_above.nd rfl (by first | exact Or.inl rfl | exact Or.inr rfl))) (fun _ _ _ _ _ => (xts_one (xt_val (xe_call c_goes_over hr (by decide) (by rfl) (xa_cons (xe_var 0) (xa_cons (xe_var 1) xa_nil)))))) (fun _ _ _ _ _ => (xe_var 1)))))
theorem sc_meaning : FnScope n_meaning ["reader", "row"] (defScope (top 21)) := ⟨rfl, rfl, rfl, by decide +kernel, rfl, by decide +kernel, by decide +kernel⟩
theorem c_meaning (T : Txt K mg) (D : De K mg "meaning" (top 21)) : C8.Cal P w K mg base 1 "meaning" (spD 2 (runD n_meaning (t_meaning))) [] := by
  obtain ⟨f, fd, F, hm⟩ := D.ex
  refine ⟨f, fd, ["reader", "row"], [], fnD F sc_meaning (fun cdv A outer s H E hr => ?_), hm, F.kp, F.bindsN (fun _ _ _ _ _ _ us hl => match us, hl with | [_, _], _ => rfl), .nil⟩
  exact (xss_one (xs_ret (xe_get2 (pe_dget2 (Room.u1 hr) (xe_var 0) (xe_var 1) xe_str ⟨rfl, rfl, rfl, rfl⟩))))
theorem sc_text_of : FnScope n_text_of ["reader", "tape"] (defScope (top 22)) := ⟨rfl, rfl, rfl, by decide +kernel, rfl, by decide +kernel, by decide +kernel⟩
theorem c_text_of {f_meaning : DF} (T : Txt K mg) (D : De K mg "text_of" (top 22)) (c_meaning : C8.Cal P w K mg base 1 "meaning" (spD 2 f_meaning) []) : C8.Cal P w K mg base 2 "text_of" (spD 2 (runD n_text_of (t_text_of f_meaning))) [] := by
  obtain ⟨f, fd, F, hm⟩ := D.ex
  refine ⟨f, fd, ["reader", "tape"], [], fnD F sc_text_of (fun cdv A outer s H E hr => ?_), hm, F.kp, F.bindsN (fun _ _ _ _ _ _ us hl => match us, hl with | [_, _], _ => rfl), .nil⟩
  exact (xss_one (xs_ret (xe_join xe_str (xe_lc rfl sc_text_of.nd (xi_list (xe_var 1)) (blkOk_by (own := [("row", 2)]) (by kernel_rfl)) (by decide) (fun _ _ _ _ _ => (xg_st false (i := 2) sc_text_of.nd rfl (by first | exact Or.inl rfl | exact Or.inr rfl))) (fun _ _ _ _ _ => xts_nil) (fun _ _ _ _ _ => (xe_call c_meaning hr (by decide) (by rfl) (xa_cons (xe_var 0) (xa_cons (xe_var 2) xa_nil))))) (pe_bm PySem.F.plainAttrs_str PySem.F.slot_str_join PySem.F.type_str_join mt_join xe_str (pa_cons (xe_lc rfl sc_text_of.nd (xi_list (xe_var 1)) (blkOk_by (own := [("row", 2)]) (by kernel_rfl)) (by decide) (fun _ _ _ _ _ => (xg_st false (i := 2) sc_text_of.nd rfl (by first | exact Or.inl rfl | exact Or.inr rfl))) (fun _ _ _ _ _ => xts_nil) (fun _ _ _ _ _ => (xe_call c_meaning hr (by decide) (by rfl) (xa_cons (xe_var 0) (xa_cons (xe_var 2) xa_nil))))) pa_nil)))))
theorem sc_over : FnScope n_over ["tape", "other"] (defScope (top 23)) := ⟨rfl, rfl, rfl, by decide +kernel, rfl, by decide +kernel, by decide +kernel⟩
theorem c_over {f_goes_over : DF} (T : Txt K mg) (D : De K mg "over" (top 23)) (c_goes_over : C8.Cal P w K mg base 1 "goes_over" (spD 2 f_goes_over) []) : C8.Cal P w K mg base 2 "over" (spD 2 (runD n_over (t_over f_goes_over))) [] := by
  obtain ⟨f, fd, F, hm⟩ := D.ex
  refine ⟨f, fd, ["tape", "other"], [], fnD F sc_over (fun cdv A outer s H E hr => ?_), hm, F.kp, F.bindsN (fun _ _ _ _ _ _ us hl => match us, hl with | [_, _], _ => rfl), .nil⟩
  exact (xss_one (xs_ret (xe_and (xe_eq (xe_len (by rfl) T.len (xa_cons (xe_var 0) xa_nil)) (xe_len (by rfl) T.len (xa_cons (xe_var 1) xa_nil))) (xe_one (xe_all (by rfl) (by rfl) T.all (xa_cons (xe_lc rfl sc_over.nd (xi_zip (by rfl) T.zip (xe_var 0) (xe_var 1)) (blkOk_by (own := [("one", 2), ("new", 3)]) (by kernel_rfl)) (by decide) (fun _ _ _ _ _ => (xg_tup rfl (xgs_cons (xg_st false (i := 2) sc_over.nd rfl (by first | exact Or.inl rfl | exact Or.inr rfl)) (xgs_cons (xg_st false (i := 3) sc_over.nd rfl (by first | exact Or.inl rfl | exact Or.inr rfl)) xgs_nil)) gl_two)) (fun _ _ _ _ _ => xts_nil) (fun _ _ _ _ _ => (xe_call c_goes_over hr (by decide) (by rfl) (xa_cons (xe_var 2) (xa_cons (xe_var 3) xa_nil))))) xa_nil))))))
theorem sc_taken : FnScope n_taken ["tape", "other"] (defScope (top 24)) := ⟨rfl, rfl, rfl, by decide +kernel, rfl, by decide +kernel, by decide +kernel⟩
theorem c_taken {f_cost_of : DF} (T : Txt K mg) (D : De K mg "taken" (top 24)) (c_cost_of : C8.Cal P w K mg base 1 "cost_of" (spD 2 f_cost_of) []) : C8.Cal P w K mg base 2 "taken" (spD 2 (runD n_taken (t_taken f_cost_of))) [] := by
  obtain ⟨f, fd, F, hm⟩ := D.ex
  refine ⟨f, fd, ["tape", "other"], [], fnD F sc_taken (fun cdv A outer s H E hr => ?_), hm, F.kp, F.bindsN (fun _ _ _ _ _ _ us hl => match us, hl with | [_, _], _ => rfl), .nil⟩
  exact (xss_one (xs_ret (xe_sum (by rfl) (by rfl) T.sum (xa_cons (xe_lc rfl sc_taken.nd (xi_zip (by rfl) T.zip (xe_var 0) (xe_var 1)) (blkOk_by (own := [("one", 2), ("new", 3)]) (by kernel_rfl)) (by decide) (fun _ _ _ _ _ => (xg_tup rfl (xgs_cons (xg_st false (i := 2) sc_taken.nd rfl (by first | exact Or.inl rfl | exact Or.inr rfl)) (xgs_cons (xg_st false (i := 3) sc_taken.nd rfl (by first | exact Or.inl rfl | exact Or.inr rfl)) xgs_nil)) gl_two)) (fun _ _ _ _ _ => xts_nil) (fun _ _ _ _ _ => (xe_call c_cost_of hr (by decide) (by rfl) (xa_cons (xe_var 2) (xa_cons (xe_var 3) xa_nil))))) xa_nil))))
theorem sc_cheapest : FnScope n_cheapest ["reader", "row", "letter"] (defScope (top 27)) := ⟨rfl, rfl, rfl, by decide +kernel, rfl, by decide +kernel, by decide +kernel⟩
theorem c_cheapest {f_above : DF} {f_meaning : DF} {f_cost_of : DF} (T : Txt K mg) (D : De K mg "cheapest" (top 27)) (c_above : C8.Cal P w K mg base 2 "above" (spD 1 f_above) []) (c_meaning : C8.Cal P w K mg base 1 "meaning" (spD 2 f_meaning) []) (c_cost_of : C8.Cal P w K mg base 1 "cost_of" (spD 2 f_cost_of) []) : C8.Cal P w K mg base 3 "cheapest" (spD 3 (runD n_cheapest (t_cheapest f_above f_meaning f_cost_of))) [] := by
  obtain ⟨f, fd, F, hm⟩ := D.ex
  refine ⟨f, fd, ["reader", "row", "letter"], [], fnD F sc_cheapest (fun cdv A outer s H E hr => ?_), hm, F.kp, F.bindsN (fun _ _ _ _ _ _ us hl => match us, hl with | [_, _, _], _ => rfl), .nil⟩
  exact (xss_cons (xs_setLc false (i := 3) rfl sc_cheapest.nd rfl rfl rfl (xi_list (xe_call c_above hr (by decide) (by rfl) (xa_cons (xe_var 1) xa_nil))) (blkOk_by (own := [("other", 4)]) (by kernel_rfl)) (by decide) (fun _ _ _ _ _ => (xg_st false (i := 4) sc_cheapest.nd rfl (by first | exact Or.inl rfl | exact Or.inr rfl))) (fun _ _ _ _ _ => (xts_one (xt_eq (xe_call c_meaning hr (by decide) (by rfl) (xa_cons (xe_var 0) (xa_cons (xe_var 4) xa_nil))) (xe_var 2)))) (fun _ _ _ _ _ => (xe_call c_cost_of hr (by decide) (by rfl) (xa_cons (xe_var 1) (xa_cons (xe_var 4) xa_nil)))))
      (xss_one (xs_ret (xe_minD (by rfl) (Room.u64 hr) (by rfl) T.min (xe_var 3) xe_non (pe_callBK (cr_minD (by rfl) (Room.u64 hr)) (by rfl) T.min (by decide +kernel) (pa_cons (xe_var 3) pa_nil) (pk_cons xe_non pk_nil))))))
theorem sc_are_tape : FnScope n_are_tape ["reader", "tape"] (defScope (top 28)) := ⟨rfl, rfl, rfl, by decide +kernel, rfl, by decide +kernel, by decide +kernel⟩
theorem c_are_tape {f_width_of : DF} {f_is_row : DF} (T : Txt K mg) (D : De K mg "are_tape" (top 28)) (c_width_of : C8.Cal P w K mg base 2 "width_of" (spD 1 f_width_of) []) (c_is_row : C8.Cal P w K mg base 1 "is_row" (spD 2 f_is_row) []) : C8.Cal P w K mg base 3 "are_tape" (spD 2 (runD n_are_tape (t_are_tape f_width_of f_is_row))) [] := by
  obtain ⟨f, fd, F, hm⟩ := D.ex
  refine ⟨f, fd, ["reader", "tape"], [], fnD F sc_are_tape (fun cdv A outer s H E hr => ?_), hm, F.kp, F.bindsN (fun _ _ _ _ _ _ us hl => match us, hl with | [_, _], _ => rfl), .nil⟩
  exact (xss_cons (xs_set false (i := 2) sc_are_tape.nd rfl (by first | exact Or.inl rfl | exact Or.inr rfl) (xe_call c_width_of hr (by decide) (by rfl) (xa_cons (xe_var 0) xa_nil)))
      (xss_one (xs_ret (xe_all (by rfl) (by rfl) T.all (xa_cons (xe_lc rfl sc_are_tape.nd (xi_list (xe_var 1)) (blkOk_by (own := [("row", 3)]) (by kernel_rfl)) (by decide) (fun _ _ _ _ _ => (xg_st false (i := 3) sc_are_tape.nd rfl (by first | exact Or.inl rfl | exact Or.inr rfl))) (fun _ _ _ _ _ => xts_nil) (fun _ _ _ _ _ => (xe_call c_is_row hr (by decide) (by rfl) (xa_cons (xe_var 3) (xa_cons (xe_var 2) xa_nil))))) xa_nil)))))
theorem sc_holds : FnScope n_holds ["least", "ahead", "cost"] (defScope (top 29)) := ⟨rfl, rfl, rfl, by decide +kernel, rfl, by decide +kernel, by decide +kernel⟩
theorem c_holds (T : Txt K mg) (D : De K mg "holds" (top 29)) : C8.Cal P w K mg base 1 "holds" (spD 3 (runD n_holds (t_holds))) [] := by
  obtain ⟨f, fd, F, hm⟩ := D.ex
  refine ⟨f, fd, ["least", "ahead", "cost"], [], fnD F sc_holds (fun cdv A outer s H E hr => ?_), hm, F.kp, F.bindsN (fun _ _ _ _ _ _ us hl => match us, hl with | [_, _, _], _ => rfl), .nil⟩
  exact (xss_one (xs_ret (xe_or (xe_isN (xe_var 2) xe_non) (xe_one (xe_le (xe_var 0) (xe_add (xe_var 1) (xe_var 2)))))))
theorem sc_Written_shows : FnScope n_Written_shows ["self", "reader", "tape", "text"] (defScope (inClass (top 30) 1)) := ⟨rfl, rfl, rfl, by decide +kernel, rfl, by decide +kernel, by decide +kernel⟩
theorem c_Written_shows {f_are_tape : DF} {f_over : DF} {f_text_of : DF} {f_holds : DF} {f_cheapest : DF} {f_taken : DF} (T : Txt K mg) (D : Me K T.c_Written "shows" "Written.shows" (inClass (top 30) 1)) (c_are_tape : C8.Cal P w K mg base 3 "are_tape" (spD 2 f_are_tape) []) (c_over : C8.Cal P w K mg base 2 "over" (spD 2 f_over) []) (c_text_of : C8.Cal P w K mg base 2 "text_of" (spD 2 f_text_of) []) (c_holds : C8.Cal P w K mg base 1 "holds" (spD 3 f_holds) []) (c_cheapest : C8.Cal P w K mg base 3 "cheapest" (spD 3 f_cheapest) []) (c_taken : C8.Cal P w K mg base 2 "taken" (spD 2 f_taken) []) : C8.Met P w K mg base 4 T.c_Written "shows" (spD 4 (runD n_Written_shows (t_Written_shows K f_are_tape f_over f_text_of f_holds f_cheapest f_taken))) [] := by
  obtain ⟨f, fd, F, hc, hm⟩ := D.ex
  refine ⟨f, fd, ["self", "reader", "tape", "text"], [], hc, hm, fnD F sc_Written_shows (fun cdv A outer s H E hr => ?_), F.bindsN (fun _ _ _ _ _ _ us hl => match us, hl with | [_, _, _, _], _ => rfl), .nil⟩
  exact (xss_cons (xs_set false (i := 4) sc_Written_shows.nd rfl (by first | exact Or.inl rfl | exact Or.inr rfl) (xe_fld (xe_var 0)))
      (xss_cons (xs_if (xt_w (xw_or (xt_not (xt_val (xe_call c_are_tape hr (by decide) (by rfl) (xa_cons (xe_var 1) (xa_cons (xe_fld (xe_var 0)) xa_nil))))) (xw_or (xt_not (xt_val (xe_call c_over hr (by decide) (by rfl) (xa_cons (xe_var 2) (xa_cons (xe_fld (xe_var 0)) xa_nil))))) (xw_or1 (xt_ne (xe_call c_text_of hr (by decide) (by rfl) (xa_cons (xe_var 1) (xa_cons (xe_fld (xe_var 0)) xa_nil))) (xe_var 3)))))) (xss_one (xs_ret xe_bl)) xss_nil)
      (xss_cons (xs_if (xt_w (xw_or (xt_ne (xe_len (by rfl) T.len (xa_cons (xe_var 4) xa_nil)) (xe_add (xe_len (by rfl) T.len (xa_cons (xe_var 2) xa_nil)) xe_int)) (xw_or (xt_val (xe_any (by rfl) (by rfl) T.any (xa_cons (xe_lc rfl sc_Written_shows.nd (xi_list (xe_var 4)) (blkOk_by (own := [("row", 6)]) (by kernel_rfl)) (by decide) (fun _ _ _ _ _ => (xg_st false (i := 6) sc_Written_shows.nd rfl (by first | exact Or.inl rfl | exact Or.inr rfl))) (fun _ _ _ _ _ => xts_nil) (fun _ _ _ _ _ => (xe_ne (xe_len (by rfl) T.len (xa_cons (xe_var 6) xa_nil)) (xe_add (xe_len (by rfl) T.len (xa_cons (xe_var 3) xa_nil)) xe_int)))) xa_nil))) (xw_or1 (xt_ne (xe_idx (xe_idx (xe_var 4) xe_int) xe_int) xe_int))))) (xss_one (xs_ret xe_bl)) xss_nil)
      (xss_cons (xs_for PassesOwn.never rfl (xi_enum (by rfl) T.enumerate (xe_var 2)) (xg_tup rfl (xgs_cons (xg_st false (i := 5) sc_Written_shows.nd rfl (by first | exact Or.inl rfl | exact Or.inr rfl)) (xgs_cons (xg_st false (i := 6) sc_Written_shows.nd rfl (by first | exact Or.inl rfl | exact Or.inr rfl)) xgs_nil)) gl_two) (xss_one (xs_for PassesOwn.never rfl (xi_range1 (by rfl) T.range (xe_add (xe_len (by rfl) T.len (xa_cons (xe_var 3) xa_nil)) xe_int)) (xg_st false (i := 7) sc_Written_shows.nd rfl (by first | exact Or.inl rfl | exact Or.inr rfl)) (xss_cons (xs_if (xt_not (xt_val (xe_call c_holds hr (by decide) (by rfl) (xa_cons (xe_idx (xe_idx (xe_var 4) (xe_add (xe_var 5) xe_int)) (xe_var 7)) (xa_cons (xe_idx (xe_idx (xe_var 4) (xe_var 5)) (xe_var 7)) (xa_cons (xe_call c_cheapest hr (by decide) (by rfl) (xa_cons (xe_var 1) (xa_cons (xe_var 6) (xa_cons xe_str xa_nil)))) xa_nil)))))) (xss_one (xs_ret xe_bl)) xss_nil)
      (xss_one (xs_if (xt_lt (xe_var 7) (xe_len (by rfl) T.len (xa_cons (xe_var 3) xa_nil))) (xss_one (xs_if (xt_not (xt_val (xe_call c_holds hr (by decide) (by rfl) (xa_cons (xe_idx (xe_idx (xe_var 4) (xe_add (xe_var 5) xe_int)) (xe_add (xe_var 7) xe_int)) (xa_cons (xe_idx (xe_idx (xe_var 4) (xe_var 5)) (xe_var 7)) (xa_cons (xe_call c_cheapest hr (by decide) (by rfl) (xa_cons (xe_var 1) (xa_cons (xe_var 6) (xa_cons (xe_idx (xe_var 3) (xe_var 7)) xa_nil)))) xa_nil)))))) (xss_one (xs_ret xe_bl)) xss_nil)) xss_nil))))))
      (xss_one (xs_ret (xe_eq (xe_idx (xe_idx (xe_var 4) (xe_neg xe_int)) (xe_neg xe_int)) (xe_call c_taken hr (by decide) (by rfl) (xa_cons (xe_var 2) (xa_cons (xe_fld (xe_var 0)) xa_nil))))))))))
theorem sc_Barred_shows : FnScope n_Barred_shows ["self", "reader", "tape", "text"] (defScope (inClass (top 31) 1)) := ⟨rfl, rfl, rfl, by decide +kernel, rfl, by decide +kernel, by decide +kernel⟩
theorem c_Barred_shows {f_cheapest : DF} (T : Txt K mg) (D : Me K T.c_Barred "shows" "Barred.shows" (inClass (top 31) 1)) (c_cheapest : C8.Cal P w K mg base 3 "cheapest" (spD 3 f_cheapest) []) : C8.Met P w K mg base 4 T.c_Barred "shows" (spD 4 (runD n_Barred_shows (t_Barred_shows K f_cheapest))) [] := by
  obtain ⟨f, fd, F, hc, hm⟩ := D.ex
  refine ⟨f, fd, ["self", "reader", "tape", "text"], [], hc, hm, fnD F sc_Barred_shows (fun cdv A outer s H E hr => ?_), F.bindsN (fun _ _ _ _ _ _ us hl => match us, hl with | [_, _, _, _], _ => rfl), .nil⟩
  exact (xss_cons (xs_set false (i := 4) sc_Barred_shows.nd rfl (by first | exact Or.inl rfl | exact Or.inr rfl) (xe_fld (xe_var 0)))
      (xss_cons (xs_if (xt_w (xw_or (xt_ne (xe_len (by rfl) T.len (xa_cons (xe_var 4) xa_nil)) (xe_add (xe_len (by rfl) T.len (xa_cons (xe_var 2) xa_nil)) xe_int)) (xw_or (xt_ne (xe_idx (xe_var 4) xe_int) xe_int) (xw_or1 (xt_ge (xe_idx (xe_var 4) (xe_neg xe_int)) (xe_len (by rfl) T.len (xa_cons (xe_var 3) xa_nil))))))) (xss_one (xs_ret xe_bl)) xss_nil)
      (xss_cons (xs_for PassesOwn.never rfl (xi_zip3 (by rfl) T.zip (xe_var 2) (xe_var 4) (xe_fz (xe_slice (xe_var 4) (xo_some xe_int) xo_none))) (xg_tup rfl (xgs_cons (xg_st false (i := 5) sc_Barred_shows.nd rfl (by first | exact Or.inl rfl | exact Or.inr rfl)) (xgs_cons (xg_st false (i := 6) sc_Barred_shows.nd rfl (by first | exact Or.inl rfl | exact Or.inr rfl)) (xgs_cons (xg_st false (i := 7) sc_Barred_shows.nd rfl (by first | exact Or.inl rfl | exact Or.inr rfl)) xgs_nil))) gl_three) (xss_cons (xs_if (xt_lt (xe_var 7) (xe_var 6)) (xss_one (xs_ret xe_bl)) xss_nil)
      (xss_one (xs_if (xt_w (xw_and (xt_lt (xe_var 6) (xe_len (by rfl) T.len (xa_cons (xe_var 3) xa_nil))) (xw_and (xt_eq (xe_var 7) (xe_var 6)) (xw_and1 (xt_notN (xe_call c_cheapest hr (by decide) (by rfl) (xa_cons (xe_var 1) (xa_cons (xe_var 5) (xa_cons (xe_idx (xe_var 3) (xe_var 6)) xa_nil)))) xe_non))))) (xss_one (xs_ret xe_bl)) xss_nil))))
      (xss_one (xs_ret xe_bl)))))
theorem sc_marks_of : FnScope n_marks_of ["reader", "tape", "text"] (defScope (top 41)) := ⟨rfl, rfl, rfl, by decide +kernel, rfl, by decide +kernel, by decide +kernel⟩
theorem c_marks_of {f_cheapest : DF} (T : Txt K mg) (D : De K mg "marks_of" (top 41)) (c_cheapest : C8.Cal P w K mg base 3 "cheapest" (spD 3 f_cheapest) []) : C8.Cal P w K mg base 4 "marks_of" (spD 3 (runD n_marks_of (t_marks_of f_cheapest))) [] := by
  obtain ⟨f, fd, F, hm⟩ := D.ex
  refine ⟨f, fd, ["reader", "tape", "text"], [], fnD F sc_marks_of (fun cdv A outer s H E hr => ?_), hm, F.kp, F.bindsN (fun _ _ _ _ _ _ us hl => match us, hl with | [_, _, _], _ => rfl), .nil⟩
  exact (xss_cons (xs_set true (i := 3) sc_marks_of.nd rfl (by first | exact Or.inl rfl | exact Or.inr rfl) (xe_lst (xa_cons xe_int xa_nil)))
      (xss_cons (xs_for PassesOwn.never rfl (xi_list (xe_var 1)) (xg_st false (i := 4) sc_marks_of.nd rfl (by first | exact Or.inl rfl | exact Or.inr rfl)) (xss_cons (xs_set false (i := 5) sc_marks_of.nd rfl (by first | exact Or.inl rfl | exact Or.inr rfl) (xe_idx (xe_var 3) (xe_neg xe_int)))
      (xss_cons (xs_set false (i := 6) sc_marks_of.nd rfl (by first | exact Or.inl rfl | exact Or.inr rfl) (xe_and (xe_lt (xe_var 5) (xe_len (by rfl) T.len (xa_cons (xe_var 2) xa_nil))) (xe_one (xe_notN (xe_call c_cheapest hr (by decide) (by rfl) (xa_cons (xe_var 0) (xa_cons (xe_var 4) (xa_cons (xe_idx (xe_var 2) (xe_var 5)) xa_nil)))) xe_non))))
      (xss_one (xs_append 3 rfl (by first | exact Or.inl rfl | exact Or.inr (Or.inl rfl) | exact Or.inr (Or.inr rfl)) (xe_if (xt_val (xe_var 6)) (xe_add (xe_var 5) xe_int) (xe_var 5)) (pe_bm PySem.F.plainAttrs_list PySem.F.slot_list_append PySem.F.type_list_append mt_append (pv 3) (pa_cons (xe_if (xt_val (xe_var 6)) (xe_add (xe_var 5) xe_int) (xe_var 5)) pa_nil)))))))
      (xss_one (xs_frz 3 (xs_ret (xe_var 3))))))
theorem sc_heights_of : FnScope n_heights_of ["reader", "tape", "text"] (defScope (top 42)) := ⟨rfl, rfl, rfl, by decide +kernel, rfl, by decide +kernel, by decide +kernel⟩
theorem c_heights_of {f_cheapest : DF} (T : Txt K mg) (D : De K mg "heights_of" (top 42)) (c_cheapest : C8.Cal P w K mg base 3 "cheapest" (spD 3 f_cheapest) []) : C8.Cal P w K mg base 4 "heights_of" (spD 3 (runD n_heights_of (t_heights_of f_cheapest))) [] := by
  obtain ⟨f, fd, F, hm⟩ := D.ex
  refine ⟨f, fd, ["reader", "tape", "text"], [], fnD F sc_heights_of (fun cdv A outer s H E hr => ?_), hm, F.kp, F.bindsN (fun _ _ _ _ _ _ us hl => match us, hl with | [_, _, _], _ => rfl), .nil⟩
  exact (xss_cons (xs_set true (i := 3) sc_heights_of.nd rfl (by first | exact Or.inl rfl | exact Or.inr rfl) (xe_lst (xa_cons (xe_fz (xe_cat (xe_lst (xa_cons xe_int xa_nil)) (xe_rep (xe_lst (xa_cons (xe_gint (by rfl) T.FAR) xa_nil)) (xe_len (by rfl) T.len (xa_cons (xe_var 2) xa_nil))))) xa_nil)))
      (xss_cons (xs_for PassesOwn.never rfl (xi_list (xe_var 1)) (xg_st false (i := 4) sc_heights_of.nd rfl (by first | exact Or.inl rfl | exact Or.inr rfl)) (xss_cons (xs_asg (xe_tup (xa_cons (xe_idx (xe_var 3) (xe_neg xe_int)) (xa_cons (xe_call c_cheapest hr (by decide) (by rfl) (xa_cons (xe_var 0) (xa_cons (xe_var 4) (xa_cons xe_str xa_nil)))) xa_nil))) (xg_tup rfl (xgs_cons (xg_st false (i := 5) sc_heights_of.nd rfl (by first | exact Or.inl rfl | exact Or.inr rfl)) (xgs_cons (xg_st false (i := 6) sc_heights_of.nd rfl (by first | exact Or.inl rfl | exact Or.inr rfl)) xgs_nil)) gl_two))
      (xss_cons (xs_setLc true (i := 7) rfl sc_heights_of.nd rfl rfl rfl (xi_list (xe_var 5)) (blkOk_by (own := [("high", 11)]) (by kernel_rfl)) (by decide) (fun _ _ _ _ _ => (xg_st false (i := 11) sc_heights_of.nd rfl (by first | exact Or.inl rfl | exact Or.inr rfl))) (fun _ _ _ _ _ => xts_nil) (fun _ _ _ _ _ => (xe_add (xe_var 11) (xe_var 6))))
      (xss_cons (xs_for PassesOwn.never rfl (xi_enumS (by rfl) T.enumerate (xe_var 2)) (xg_tup rfl (xgs_cons (xg_st false (i := 8) sc_heights_of.nd rfl (by first | exact Or.inl rfl | exact Or.inr rfl)) (xgs_cons (xg_st false (i := 9) sc_heights_of.nd rfl (by first | exact Or.inl rfl | exact Or.inr rfl)) xgs_nil)) gl_two) (xss_cons (xs_set false (i := 10) sc_heights_of.nd rfl (by first | exact Or.inl rfl | exact Or.inr rfl) (xe_call c_cheapest hr (by decide) (by rfl) (xa_cons (xe_var 0) (xa_cons (xe_var 4) (xa_cons (xe_var 9) xa_nil)))))
      (xss_one (xs_if (xt_notN (xe_var 10) xe_non) (xss_one (xs_setL 7 rfl (by first | exact Or.inl rfl | exact Or.inr (Or.inl rfl) | exact Or.inr (Or.inr rfl)) (xe_min2 (by rfl) (by rfl) T.min (xa_cons (xe_idx (xe_var 7) (xe_add (xe_var 8) xe_int)) (xa_cons (xe_add (xe_idx (xe_var 5) (xe_var 8)) (xe_var 10)) xa_nil))) (xe_add (xe_var 8) xe_int) (ps_asg (xe_min2 (by rfl) (by rfl) T.min (xa_cons (xe_idx (xe_var 7) (xe_add (xe_var 8) xe_int)) (xa_cons (xe_add (xe_idx (xe_var 5) (xe_var 8)) (xe_var 10)) xa_nil))) (pg_sub (pv 7) (xe_add (xe_var 8) xe_int) set_list) rfl rfl rfl))) xss_nil))))
      (xss_one (xs_frz 7 (xs_append 3 rfl (by first | exact Or.inl rfl | exact Or.inr (Or.inl rfl) | exact Or.inr (Or.inr rfl)) (xe_var 7) (pe_bm PySem.F.plainAttrs_list PySem.F.slot_list_append PySem.F.type_list_append mt_append (pv 3) (pa_cons (xe_var 7) pa_nil)))))))))
      (xss_one (xs_frz 3 (xs_ret (xe_var 3))))))
theorem sc_first_row : FnScope n_first_row ["reader", "row", "letter", "cost"] (defScope (top 43)) := ⟨rfl, rfl, rfl, by decide +kernel, rfl, by decide +kernel, by decide +kernel⟩
theorem c_first_row {f_above : DF} {f_meaning : DF} {f_cost_of : DF} (T : Txt K mg) (D : De K mg "first_row" (top 43)) (c_above : C8.Cal P w K mg base 2 "above" (spD 1 f_above) []) (c_meaning : C8.Cal P w K mg base 1 "meaning" (spD 2 f_meaning) []) (c_cost_of : C8.Cal P w K mg base 1 "cost_of" (spD 2 f_cost_of) []) : C8.Cal P w K mg base 3 "first_row" (spD 4 (runD n_first_row (t_first_row f_above f_meaning f_cost_of))) [] := by
  obtain ⟨f, fd, F, hm⟩ := D.ex
  refine ⟨f, fd, ["reader", "row", "letter", "cost"], [], fnD F sc_first_row (fun cdv A outer s H E hr => ?_), hm, F.kp, F.bindsN (fun _ _ _ _ _ _ us hl => match us, hl with | [_, _, _, _], _ => rfl), .nil⟩
  exact (xss_one (xs_ret (xe_idx (xe_lc rfl sc_first_row.nd (xi_list (xe_call c_above hr (by decide) (by rfl) (xa_cons (xe_var 1) xa_nil))) (blkOk_by (own := [("other", 4)]) (by kernel_rfl)) (by decide) (fun _ _ _ _ _ => (xg_st false (i := 4) sc_first_row.nd rfl (by first | exact Or.inl rfl | exact Or.inr rfl))) (fun _ _ _ _ _ => (xts_one (xt_w (xw_and (xt_eq (xe_call c_meaning hr (by decide) (by rfl) (xa_cons (xe_var 0) (xa_cons (xe_var 4) xa_nil))) (xe_var 2)) (xw_and1 (xt_eq (xe_call c_cost_of hr (by decide) (by rfl) (xa_cons (xe_var 1) (xa_cons (xe_var 4) xa_nil))) (xe_var 3))))))) (fun _ _ _ _ _ => (xe_var 4))) xe_int)))
theorem sc_tape_by : FnScope n_tape_by ["reader", "tape", "text", "heights"] (defScope (top 44)) := ⟨rfl, rfl, rfl, by decide +kernel, rfl, by decide +kernel, by decide +kernel⟩
theorem c_tape_by {f_cheapest : DF} {f_first_row : DF} (T : Txt K mg) (D : De K mg "tape_by" (top 44)) (c_cheapest : C8.Cal P w K mg base 3 "cheapest" (spD 3 f_cheapest) []) (c_first_row : C8.Cal P w K mg base 3 "first_row" (spD 4 f_first_row) []) : C8.Cal P w K mg base 4 "tape_by" (spD 4 (runD n_tape_by (t_tape_by f_cheapest f_first_row))) [] := by
  obtain ⟨f, fd, F, hm⟩ := D.ex
  refine ⟨f, fd, ["reader", "tape", "text", "heights"], [], fnD F sc_tape_by (fun cdv A outer s H E hr => ?_), hm, F.kp, F.bindsN (fun _ _ _ _ _ _ us hl => match us, hl with | [_, _, _, _], _ => rfl), .nil⟩
  exact (xss_cons (xs_par true false (i := 4) (j := 5) rfl sc_tape_by.nd rfl rfl (by decide) rfl rfl (xe_lst xa_nil) (xe_len (by rfl) T.len (xa_cons (xe_var 2) xa_nil)) rfl)
      (xss_cons (xs_for PassesOwn.never rfl (xi_revR (by rfl) T.reversed (by rfl) T.range (xe_len (by rfl) T.len (xa_cons (xe_var 1) xa_nil))) (xg_st false (i := 6) sc_tape_by.nd rfl (by first | exact Or.inl rfl | exact Or.inr rfl)) (xss_cons (xs_set false (i := 7) sc_tape_by.nd rfl (by first | exact Or.inl rfl | exact Or.inr rfl) (xe_idx (xe_var 1) (xe_var 6)))
      (xss_cons (xs_set false (i := 8) sc_tape_by.nd rfl (by first | exact Or.inl rfl | exact Or.inr rfl) (xe_if (xt_gt (xe_var 5) xe_int) (xe_call c_cheapest hr (by decide) (by rfl) (xa_cons (xe_var 0) (xa_cons (xe_var 7) (xa_cons (xe_idx (xe_var 2) (xe_sub (xe_var 5) xe_int)) xa_nil)))) xe_non))
      (xss_one (xs_if (xt_w (xw_and (xt_notN (xe_var 8) xe_non) (xw_and1 (xt_eq (xe_add (xe_idx (xe_idx (xe_var 3) (xe_var 6)) (xe_sub (xe_var 5) xe_int)) (xe_var 8)) (xe_idx (xe_idx (xe_var 3) (xe_add (xe_var 6) xe_int)) (xe_var 5)))))) (xss_cons (xs_append 4 rfl (by first | exact Or.inl rfl | exact Or.inr (Or.inl rfl) | exact Or.inr (Or.inr rfl)) (xe_call c_first_row hr (by decide) (by rfl) (xa_cons (xe_var 0) (xa_cons (xe_var 7) (xa_cons (xe_idx (xe_var 2) (xe_sub (xe_var 5) xe_int)) (xa_cons (xe_var 8) xa_nil))))) (pe_bm PySem.F.plainAttrs_list PySem.F.slot_list_append PySem.F.type_list_append mt_append (pv 4) (pa_cons (xe_call c_first_row hr (by decide) (by rfl) (xa_cons (xe_var 0) (xa_cons (xe_var 7) (xa_cons (xe_idx (xe_var 2) (xe_sub (xe_var 5) xe_int)) (xa_cons (xe_var 8) xa_nil))))) pa_nil)))
      (xss_one (xs_aug (i := 5) sc_tape_by.nd rfl (by first | exact Or.inl rfl | exact Or.inr rfl) xe_int ip_sub l_ipSub))) (xss_one (xs_append 4 rfl (by first | exact Or.inl rfl | exact Or.inr (Or.inl rfl) | exact Or.inr (Or.inr rfl)) (xe_call c_first_row hr (by decide) (by rfl) (xa_cons (xe_var 0) (xa_cons (xe_var 7) (xa_cons xe_str (xa_cons (xe_call c_cheapest hr (by decide) (by rfl) (xa_cons (xe_var 0) (xa_cons (xe_var 7) (xa_cons xe_str xa_nil)))) xa_nil))))) (pe_bm PySem.F.plainAttrs_list PySem.F.slot_list_append PySem.F.type_list_append mt_append (pv 4) (pa_cons (xe_call c_first_row hr (by decide) (by rfl) (xa_cons (xe_var 0) (xa_cons (xe_var 7) (xa_cons xe_str (xa_cons (xe_call c_cheapest hr (by decide) (by rfl) (xa_cons (xe_var 0) (xa_cons (xe_var 7) (xa_cons xe_str xa_nil)))) xa_nil))))) pa_nil)))))))))
      (xss_one (xs_ret (xe_rev (xe_var 4))))))
theorem sc_check_all : FnScope n_check_all ["reader", "tape", "text"] (defScope (top 46)) := ⟨rfl, rfl, rfl, by decide +kernel, rfl, by decide +kernel, by decide +kernel⟩
theorem c_check_all {f_check_tape : DF} {f_width_of : DF} {f_check_text : DF} (T : Txt K mg) (D : De K mg "check_all" (top 46)) (c_check_tape : C8.Cal P w K mg base 2 "check_tape" (spD 2 f_check_tape) []) (c_width_of : C8.Cal P w K mg base 2 "width_of" (spD 1 f_width_of) []) (c_check_text : C8.Cal P w K mg base 1 "check_text" (spD 1 f_check_text) []) : C8.Cal P w K mg base 3 "check_all" (spD 3 (runD n_check_all (t_check_all f_check_tape f_width_of f_check_text))) [] := by
  obtain ⟨f, fd, F, hm⟩ := D.ex
  refine ⟨f, fd, ["reader", "tape", "text"], [], fnD F sc_check_all (fun cdv A outer s H E hr => ?_), hm, F.kp, F.bindsN (fun _ _ _ _ _ _ us hl => match us, hl with | [_, _, _], _ => rfl), .nil⟩
  exact (xss_cons (xs_expr (xe_call c_check_tape hr (by decide) (by rfl) (xa_cons (xe_call c_width_of hr (by decide) (by rfl) (xa_cons (xe_var 0) xa_nil)) (xa_cons (xe_var 1) xa_nil))))
      (xss_one (xs_expr (xe_call c_check_text hr (by decide) (by rfl) (xa_cons (xe_var 2) xa_nil)))))
theorem sc__law_draw : FnScope n__law_draw ["_law_cell", "_law_k", "_law_many"] (defScope (top 49)) := ⟨rfl, rfl, rfl, by decide +kernel, rfl, by decide +kernel, by decide +kernel⟩
theorem c__law_draw (T : Txt K mg) (D : De K mg "_law_draw" (top 49)) : C8.Cal P w K mg base 1 "_law_draw" (spD 3 (runD n__law_draw (t__law_draw))) [] := by
  obtain ⟨f, fd, F, hm⟩ := D.ex
  refine ⟨f, fd, ["_law_cell", "_law_k", "_law_many"], [], fnD F sc__law_draw (fun cdv A outer s H E hr => ?_), hm, F.kp, F.bindsN (fun _ _ _ _ _ _ us hl => match us, hl with | [_, _, _], _ => rfl), .nil⟩
  exact (xss_cons (xs_set false (i := 3) sc__law_draw.nd rfl (by first | exact Or.inl rfl | exact Or.inr rfl) (xe_tup (xa_cons xe_int (xa_cons xe_int (xa_cons xe_int (xa_cons xe_int (xa_cons xe_int (xa_cons xe_int (xa_cons xe_int (xa_cons xe_int (xa_cons xe_int (xa_cons xe_int (xa_cons xe_int (xa_cons xe_int (xa_cons xe_int (xa_cons xe_int (xa_cons xe_int (xa_cons xe_int xa_nil))))))))))))))))))
      (xss_one (xs_ret (xe_mod (xe_mod (xe_add (xe_mul (xe_var 0) xe_int) (xe_mul (xe_var 1) xe_int)) (xe_idx (xe_var 3) (xe_mod (xe_var 1) xe_int))) (xe_var 2)))))
theorem sc__law_cell_at : FnScope n__law_cell_at ["_law_script", "_law_k"] (defScope (top 50)) := ⟨rfl, rfl, rfl, by decide +kernel, rfl, by decide +kernel, by decide +kernel⟩
theorem c__law_cell_at {f__law_draw : DF} (T : Txt K mg) (D : De K mg "_law_cell_at" (top 50)) (c__law_draw : C8.Cal P w K mg base 1 "_law_draw" (spD 3 f__law_draw) []) : C8.Cal P w K mg base 2 "_law_cell_at" (spD 2 (runD n__law_cell_at (t__law_cell_at f__law_draw))) [] := by
  obtain ⟨f, fd, F, hm⟩ := D.ex
  refine ⟨f, fd, ["_law_script", "_law_k"], [], fnD F sc__law_cell_at (fun cdv A outer s H E hr => ?_), hm, F.kp, F.bindsN (fun _ _ _ _ _ _ us hl => match us, hl with | [_, _], _ => rfl), .nil⟩
  exact (xss_cons (xs_if (xt_lt (xe_var 1) (xe_len (by rfl) T.len (xa_cons (xe_var 0) xa_nil))) (xss_one (xs_ret (xe_abs (by rfl) T.abs (xa_cons (xe_idx (xe_var 0) (xe_var 1)) xa_nil)))) xss_nil)
      (xss_one (xs_ret (xe_call c__law_draw hr (by decide) (by rfl) (xa_cons (xe_add (xe_abs (by rfl) T.abs (xa_cons (xe_sum (by rfl) (by rfl) T.sum (xa_cons (xe_var 0) xa_nil)) xa_nil)) (xe_mul xe_int (xe_var 1))) (xa_cons (xe_var 1) (xa_cons xe_int xa_nil)))))))
theorem sc__law_digits : FnScope n__law_digits ["_law_script", "_law_at", "_law_many", "_law_base"] (defScope (top 51)) := ⟨rfl, rfl, rfl, by decide +kernel, rfl, by decide +kernel, by decide +kernel⟩
theorem c__law_digits {f__law_cell_at : DF} {f__law_draw : DF} (T : Txt K mg) (D : De K mg "_law_digits" (top 51)) (c__law_cell_at : C8.Cal P w K mg base 2 "_law_cell_at" (spD 2 f__law_cell_at) []) (c__law_draw : C8.Cal P w K mg base 1 "_law_draw" (spD 3 f__law_draw) []) : C8.Cal P w K mg base 3 "_law_digits" (spD 4 (runD n__law_digits (t__law_digits f__law_cell_at f__law_draw))) [] := by
  obtain ⟨f, fd, F, hm⟩ := D.ex
  refine ⟨f, fd, ["_law_script", "_law_at", "_law_many", "_law_base"], [], fnD F sc__law_digits (fun cdv A outer s H E hr => ?_), hm, F.kp, F.bindsN (fun _ _ _ _ _ _ us hl => match us, hl with | [_, _, _, _], _ => rfl), .nil⟩
  exact (xss_cons (xs_par false true (i := 4) (j := 5) rfl sc__law_digits.nd rfl rfl (by decide) rfl rfl (xe_call c__law_cell_at hr (by decide) (by rfl) (xa_cons (xe_var 0) (xa_cons (xe_var 1) xa_nil))) (xe_lst xa_nil) rfl)
      (xss_cons (xs_set false (i := 6) sc__law_digits.nd rfl (by first | exact Or.inl rfl | exact Or.inr rfl) (xe_sub (xe_var 4) (xe_pow xe_int xe_int)))
      (xss_cons (xs_for PassesOwn.never rfl (xi_range1 (by rfl) T.range (xe_var 2)) (xg_st false (i := 7) sc__law_digits.nd rfl (by first | exact Or.inl rfl | exact Or.inr rfl)) (xss_one (xs_if (xt_ge (xe_var 4) (xe_pow xe_int xe_int)) (xss_cons (xs_append 5 rfl (by first | exact Or.inl rfl | exact Or.inr (Or.inl rfl) | exact Or.inr (Or.inr rfl)) (xe_mod (xe_var 6) (xe_var 3)) (pe_bm PySem.F.plainAttrs_list PySem.F.slot_list_append PySem.F.type_list_append mt_append (pv 5) (pa_cons (xe_mod (xe_var 6) (xe_var 3)) pa_nil)))
      (xss_one (xs_set false (i := 6) sc__law_digits.nd rfl (by first | exact Or.inl rfl | exact Or.inr rfl) (xe_fdiv (xe_var 6) (xe_var 3))))) (xss_cons (xs_set false (i := 8) sc__law_digits.nd rfl (by first | exact Or.inl rfl | exact Or.inr rfl) (xe_call c__law_draw hr (by decide) (by rfl) (xa_cons (xe_mul (xe_add (xe_var 4) (xe_mul xe_int (xe_var 7))) (xe_add (xe_add (xe_var 4) (xe_mul xe_int (xe_var 7))) xe_int)) (xa_cons (xe_add (xe_mod (xe_var 7) xe_int) xe_int) (xa_cons xe_int xa_nil)))))
      (xss_cons (xs_set false (i := 9) sc__law_digits.nd rfl (by first | exact Or.inl rfl | exact Or.inr rfl) (xe_call c__law_draw hr (by decide) (by rfl) (xa_cons (xe_add (xe_mul (xe_add (xe_var 4) (xe_mul xe_int (xe_var 7))) (xe_add (xe_var 4) xe_int)) (xe_mul xe_int (xe_var 7))) (xa_cons (xe_add (xe_mod (xe_var 7) xe_int) xe_int) (xa_cons xe_int xa_nil)))))
      (xss_one (xs_append 5 rfl (by first | exact Or.inl rfl | exact Or.inr (Or.inl rfl) | exact Or.inr (Or.inr rfl)) (xe_mod (xe_add (xe_mul (xe_var 8) xe_int) (xe_var 9)) (xe_var 3)) (pe_bm PySem.F.plainAttrs_list PySem.F.slot_list_append PySem.F.type_list_append mt_append (pv 5) (pa_cons (xe_mod (xe_add (xe_mul (xe_var 8) xe_int) (xe_var 9)) (xe_var 3)) pa_nil)))))))))
      (xss_one (xs_frz 5 (xs_ret (xe_var 5)))))))
theorem sc__law_rows : FnScope n__law_rows ["_law_width_here"] (defScope (top 52)) := ⟨rfl, rfl, rfl, by decide +kernel, rfl, by decide +kernel, by decide +kernel⟩
theorem c__law_rows (T : Txt K mg) (D : De K mg "_law_rows" (top 52)) : C8.Cal P w K mg base 1 "_law_rows" (spD 1 (runD n__law_rows (t__law_rows))) [] := by
  obtain ⟨f, fd, F, hm⟩ := D.ex
  refine ⟨f, fd, ["_law_width_here"], [], fnD F sc__law_rows (fun cdv A outer s H E hr => ?_), hm, F.kp, F.bindsN (fun _ _ _ _ _ _ us hl => match us, hl with | [_], _ => rfl), .nil⟩
  exact (xss_cons (xs_set true (i := 1) sc__law_rows.nd rfl (by first | exact Or.inl rfl | exact Or.inr rfl) (xe_lst xa_nil))
      (xss_cons (xs_for PassesOwn.never rfl (xi_range1 (by rfl) T.range (xe_shl xe_int (xe_var 0))) (xg_st false (i := 2) sc__law_rows.nd rfl (by first | exact Or.inl rfl | exact Or.inr rfl)) (xss_one (xs_append 1 rfl (by first | exact Or.inl rfl | exact Or.inr (Or.inl rfl) | exact Or.inr (Or.inr rfl)) (xe_join xe_str (xe_lc rfl sc__law_rows.nd (xi_range1 (by rfl) T.range (xe_var 0)) (blkOk_by (own := [("_law_at", 3)]) (by kernel_rfl)) (by decide) (fun _ _ _ _ _ => (xg_st false (i := 3) sc__law_rows.nd rfl (by first | exact Or.inl rfl | exact Or.inr rfl))) (fun _ _ _ _ _ => xts_nil) (fun _ _ _ _ _ => (xe_if (xt_eq (xe_bitand (xe_shr (xe_var 2) (xe_sub (xe_sub (xe_var 0) xe_int) (xe_var 3))) xe_int) xe_int) xe_str xe_str))) (pe_bm PySem.F.plainAttrs_str PySem.F.slot_str_join PySem.F.type_str_join mt_join xe_str (pa_cons (xe_lc rfl sc__law_rows.nd (xi_range1 (by rfl) T.range (xe_var 0)) (blkOk_by (own := [("_law_at", 3)]) (by kernel_rfl)) (by decide) (fun _ _ _ _ _ => (xg_st false (i := 3) sc__law_rows.nd rfl (by first | exact Or.inl rfl | exact Or.inr rfl))) (fun _ _ _ _ _ => xts_nil) (fun _ _ _ _ _ => (xe_if (xt_eq (xe_bitand (xe_shr (xe_var 2) (xe_sub (xe_sub (xe_var 0) xe_int) (xe_var 3))) xe_int) xe_int) xe_str xe_str))) pa_nil))) (pe_bm PySem.F.plainAttrs_list PySem.F.slot_list_append PySem.F.type_list_append mt_append (pv 1) (pa_cons (xe_join xe_str (xe_lc rfl sc__law_rows.nd (xi_range1 (by rfl) T.range (xe_var 0)) (blkOk_by (own := [("_law_at", 3)]) (by kernel_rfl)) (by decide) (fun _ _ _ _ _ => (xg_st false (i := 3) sc__law_rows.nd rfl (by first | exact Or.inl rfl | exact Or.inr rfl))) (fun _ _ _ _ _ => xts_nil) (fun _ _ _ _ _ => (xe_if (xt_eq (xe_bitand (xe_shr (xe_var 2) (xe_sub (xe_sub (xe_var 0) xe_int) (xe_var 3))) xe_int) xe_int) xe_str xe_str))) (pe_bm PySem.F.plainAttrs_str PySem.F.slot_str_join PySem.F.type_str_join mt_join xe_str (pa_cons (xe_lc rfl sc__law_rows.nd (xi_range1 (by rfl) T.range (xe_var 0)) (blkOk_by (own := [("_law_at", 3)]) (by kernel_rfl)) (by decide) (fun _ _ _ _ _ => (xg_st false (i := 3) sc__law_rows.nd rfl (by first | exact Or.inl rfl | exact Or.inr rfl))) (fun _ _ _ _ _ => xts_nil) (fun _ _ _ _ _ => (xe_if (xt_eq (xe_bitand (xe_shr (xe_var 2) (xe_sub (xe_sub (xe_var 0) xe_int) (xe_var 3))) xe_int) xe_int) xe_str xe_str))) pa_nil))) pa_nil)))))
      (xss_one (xs_frz 1 (xs_ret (xe_var 1))))))
theorem sc__law_pool : FnScope n__law_pool ["_law_script", "_law_at"] (defScope (top 53)) := ⟨rfl, rfl, rfl, by decide +kernel, rfl, by decide +kernel, by decide +kernel⟩
theorem c__law_pool {f__law_digits : DF} (T : Txt K mg) (D : De K mg "_law_pool" (top 53)) (c__law_digits : C8.Cal P w K mg base 3 "_law_digits" (spD 4 f__law_digits) []) : C8.Cal P w K mg base 4 "_law_pool" (spD 2 (runD n__law_pool (t__law_pool f__law_digits))) [] := by
  obtain ⟨f, fd, F, hm⟩ := D.ex
  refine ⟨f, fd, ["_law_script", "_law_at"], [], fnD F sc__law_pool (fun cdv A outer s H E hr => ?_), hm, F.kp, F.bindsN (fun _ _ _ _ _ _ us hl => match us, hl with | [_, _], _ => rfl), .nil⟩
  exact (xss_one (xs_ret (xe_lc rfl sc__law_pool.nd (xi_list (xe_call c__law_digits hr (by decide) (by rfl) (xa_cons (xe_var 0) (xa_cons (xe_var 1) (xa_cons xe_int (xa_cons xe_int xa_nil)))))) (blkOk_by (own := [("_law_one", 2)]) (by kernel_rfl)) (by decide) (fun _ _ _ _ _ => (xg_st false (i := 2) sc__law_pool.nd rfl (by first | exact Or.inl rfl | exact Or.inr rfl))) (fun _ _ _ _ _ => xts_nil) (fun _ _ _ _ _ => (xe_idx xe_str (xe_var 2))))))
theorem sc__law_reader : FnScope n__law_reader ["_law_script", "_law_at", "_law_pool_here", "_law_least"] (defScope (top 54)) := ⟨rfl, rfl, rfl, by decide +kernel, rfl, by decide +kernel, by decide +kernel⟩
theorem c__law_reader {f__law_digits : DF} {f__law_rows : DF} (T : Txt K mg) (D : De K mg "_law_reader" (top 54)) (c__law_digits : C8.Cal P w K mg base 3 "_law_digits" (spD 4 f__law_digits) []) (c__law_rows : C8.Cal P w K mg base 1 "_law_rows" (spD 1 f__law_rows) []) : C8.Cal P w K mg base 4 "_law_reader" (spD 4 (runD n__law_reader (t__law_reader f__law_digits f__law_rows))) [] := by
  obtain ⟨f, fd, F, hm⟩ := D.ex
  refine ⟨f, fd, ["_law_script", "_law_at", "_law_pool_here", "_law_least"], [], fnD F sc__law_reader (fun cdv A outer s H E hr => ?_), hm, F.kp, F.bindsN (fun _ _ _ _ _ _ us hl => match us, hl with | [_, _, _, _], _ => rfl), .nil⟩
  exact (xss_cons (xs_par false true (i := 4) (j := 5) rfl sc__law_reader.nd rfl rfl (by decide) rfl rfl (xe_call c__law_digits hr (by decide) (by rfl) (xa_cons (xe_var 0) (xa_cons (xe_var 1) (xa_cons xe_int (xa_cons xe_int xa_nil))))) xe_newK rfl)
      (xss_cons (xs_set false (i := 6) sc__law_reader.nd rfl (by first | exact Or.inl rfl | exact Or.inr rfl) (xe_add (xe_var 3) (xe_mod (xe_idx (xe_var 4) xe_int) (xe_sub xe_int (xe_var 3)))))
      (xss_cons (xs_set false (i := 7) sc__law_reader.nd rfl (by first | exact Or.inl rfl | exact Or.inr rfl) (xe_slice (xe_call c__law_rows hr (by decide) (by rfl) (xa_cons (xe_var 6) xa_nil)) xo_none (xo_some (xe_neg xe_int))))
      (xss_cons (xs_set false (i := 8) sc__law_reader.nd rfl (by first | exact Or.inl rfl | exact Or.inr rfl) (xe_mod (xe_fdiv (xe_idx (xe_var 4) xe_int) xe_int) (xe_len (by rfl) T.len (xa_cons (xe_var 7) xa_nil))))
      (xss_cons (xs_for PassesOwn.never rfl (xi_zip (by rfl) T.zip (xe_fz (xe_slice (xe_var 4) (xo_some xe_int) xo_none)) (xe_fz (xe_cat (xe_slice (xe_var 7) (xo_some (xe_var 8)) xo_none) (xe_slice (xe_var 7) xo_none (xo_some (xe_var 8)))))) (xg_tup rfl (xgs_cons (xg_st false (i := 9) sc__law_reader.nd rfl (by first | exact Or.inl rfl | exact Or.inr rfl)) (xgs_cons (xg_st false (i := 10) sc__law_reader.nd rfl (by first | exact Or.inl rfl | exact Or.inr rfl)) xgs_nil)) gl_two) (xss_one (xs_if (xt_lt (xe_mod (xe_var 9) xe_int) (xe_add xe_int (xe_mod (xe_fdiv (xe_idx (xe_var 4) xe_int) xe_int) xe_int))) (xss_one (xs_put 5 rfl (by first | exact Or.inl rfl | exact Or.inr (Or.inl rfl) | exact Or.inr (Or.inr rfl)) (ps_dput (Room.u1 hr) (pv 5) (xe_var 10) (xe_idx (xe_var 2) (xe_mod (xe_fdiv (xe_var 9) xe_int) xe_int)) rfl))) xss_nil)))
      (xss_cons (xs_if (xt_eqE (Room.u0 hr) (xe_var 5) xe_newK) (xss_one (xs_put 5 rfl (by first | exact Or.inl rfl | exact Or.inr (Or.inl rfl) | exact Or.inr (Or.inr rfl)) (ps_dput (Room.u1 hr) (pv 5) (xe_idx (xe_var 7) (xe_var 8)) (xe_idx (xe_var 2) xe_int) rfl))) xss_nil)
      (xss_one (xs_frz 5 (xs_ret (xe_var 5))))))))))
theorem sc__law_width : FnScope n__law_width ["_law_reader_here"] (defScope (top 55)) := ⟨rfl, rfl, rfl, by decide +kernel, rfl, by decide +kernel, by decide +kernel⟩
theorem c__law_width (T : Txt K mg) (D : De K mg "_law_width" (top 55)) : C8.Cal P w K mg base 1 "_law_width" (spD 1 (runD n__law_width (t__law_width))) [] := by
  obtain ⟨f, fd, F, hm⟩ := D.ex
  refine ⟨f, fd, ["_law_reader_here"], [], fnD F sc__law_width (fun cdv A outer s H E hr => ?_), hm, F.kp, F.bindsN (fun _ _ _ _ _ _ us hl => match us, hl with | [_], _ => rfl), .nil⟩
  exact (xss_one (xs_ret (xe_len (by rfl) T.len (xa_cons (xe_idx (xe_list (by rfl) (by rfl) T.list_ (xa_cons (xe_var 0) xa_nil)) xe_int) xa_nil))))
theorem sc__law_tape : FnScope n__law_tape ["_law_script", "_law_at", "_law_width_here", "_law_many"] (defScope (top 56)) := ⟨rfl, rfl, rfl, by decide +kernel, rfl, by decide +kernel, by decide +kernel⟩
theorem c__law_tape {f__law_rows : DF} {f__law_digits : DF} (T : Txt K mg) (D : De K mg "_law_tape" (top 56)) (c__law_rows : C8.Cal P w K mg base 1 "_law_rows" (spD 1 f__law_rows) []) (c__law_digits : C8.Cal P w K mg base 3 "_law_digits" (spD 4 f__law_digits) []) : C8.Cal P w K mg base 4 "_law_tape" (spD 4 (runD n__law_tape (t__law_tape f__law_rows f__law_digits))) [] := by
  obtain ⟨f, fd, F, hm⟩ := D.ex
  refine ⟨f, fd, ["_law_script", "_law_at", "_law_width_here", "_law_many"], [], fnD F sc__law_tape (fun cdv A outer s H E hr => ?_), hm, F.kp, F.bindsN (fun _ _ _ _ _ _ us hl => match us, hl with | [_, _, _, _], _ => rfl), .nil⟩
  exact (xss_cons (xs_par false true (i := 4) (j := 5) rfl sc__law_tape.nd rfl rfl (by decide) rfl rfl (xe_call c__law_rows hr (by decide) (by rfl) (xa_cons (xe_var 2) xa_nil)) (xe_lst xa_nil) rfl)
      (xss_cons (xs_for PassesOwn.never rfl (xi_list (xe_call c__law_digits hr (by decide) (by rfl) (xa_cons (xe_var 0) (xa_cons (xe_var 1) (xa_cons (xe_var 3) (xa_cons xe_int xa_nil)))))) (xg_st false (i := 6) sc__law_tape.nd rfl (by first | exact Or.inl rfl | exact Or.inr rfl)) (xss_cons (xs_set false (i := 7) sc__law_tape.nd rfl (by first | exact Or.inl rfl | exact Or.inr rfl) (xe_bitor (xe_mod (xe_fdiv (xe_var 6) xe_int) xe_int) (xe_mul (xe_mod (xe_fdiv (xe_var 6) xe_int) xe_int) xe_int)))
      (xss_one (xs_append 5 rfl (by first | exact Or.inl rfl | exact Or.inr (Or.inl rfl) | exact Or.inr (Or.inr rfl)) (xe_idx (xe_var 4) (xe_mod (xe_bitand (xe_mod (xe_var 6) xe_int) (xe_var 7)) (xe_len (by rfl) T.len (xa_cons (xe_var 4) xa_nil)))) (pe_bm PySem.F.plainAttrs_list PySem.F.slot_list_append PySem.F.type_list_append mt_append (pv 5) (pa_cons (xe_idx (xe_var 4) (xe_mod (xe_bitand (xe_mod (xe_var 6) xe_int) (xe_var 7)) (xe_len (by rfl) T.len (xa_cons (xe_var 4) xa_nil)))) pa_nil))))))
      (xss_one (xs_frz 5 (xs_ret (xe_var 5))))))
theorem sc__law_text : FnScope n__law_text ["_law_script", "_law_at", "_law_pool_here", "_law_many"] (defScope (top 57)) := ⟨rfl, rfl, rfl, by decide +kernel, rfl, by decide +kernel, by decide +kernel⟩
theorem c__law_text {f__law_digits : DF} (T : Txt K mg) (D : De K mg "_law_text" (top 57)) (c__law_digits : C8.Cal P w K mg base 3 "_law_digits" (spD 4 f__law_digits) []) : C8.Cal P w K mg base 4 "_law_text" (spD 4 (runD n__law_text (t__law_text f__law_digits))) [] := by
  obtain ⟨f, fd, F, hm⟩ := D.ex
  refine ⟨f, fd, ["_law_script", "_law_at", "_law_pool_here", "_law_many"], [], fnD F sc__law_text (fun cdv A outer s H E hr => ?_), hm, F.kp, F.bindsN (fun _ _ _ _ _ _ us hl => match us, hl with | [_, _, _, _], _ => rfl), .nil⟩
  exact (xss_cons (xs_set false (i := 4) sc__law_text.nd rfl (by first | exact Or.inl rfl | exact Or.inr rfl) (xe_call c__law_digits hr (by decide) (by rfl) (xa_cons (xe_var 0) (xa_cons (xe_var 1) (xa_cons (xe_var 3) (xa_cons (xe_mul xe_int xe_int) xa_nil))))))
      (xss_cons (xs_set false (i := 5) sc__law_text.nd rfl (by first | exact Or.inl rfl | exact Or.inr rfl) xe_str)
      (xss_one (xs_ret (xe_join xe_str (xe_lc rfl sc__law_text.nd (xi_list (xe_var 4)) (blkOk_by (own := [("_law_draw_here", 6)]) (by kernel_rfl)) (by decide) (fun _ _ _ _ _ => (xg_st false (i := 6) sc__law_text.nd rfl (by first | exact Or.inl rfl | exact Or.inr rfl))) (fun _ _ _ _ _ => xts_nil) (fun _ _ _ _ _ => (xe_if (xt_lt (xe_fdiv (xe_var 6) xe_int) xe_int) (xe_idx (xe_var 2) (xe_mod (xe_fdiv (xe_var 6) xe_int) xe_int)) (xe_idx (xe_var 5) (xe_mod (xe_var 6) xe_int))))) (pe_bm PySem.F.plainAttrs_str PySem.F.slot_str_join PySem.F.type_str_join mt_join xe_str (pa_cons (xe_lc rfl sc__law_text.nd (xi_list (xe_var 4)) (blkOk_by (own := [("_law_draw_here", 6)]) (by kernel_rfl)) (by decide) (fun _ _ _ _ _ => (xg_st false (i := 6) sc__law_text.nd rfl (by first | exact Or.inl rfl | exact Or.inr rfl))) (fun _ _ _ _ _ => xts_nil) (fun _ _ _ _ _ => (xe_if (xt_lt (xe_fdiv (xe_var 6) xe_int) xe_int) (xe_idx (xe_var 2) (xe_mod (xe_fdiv (xe_var 6) xe_int) xe_int)) (xe_idx (xe_var 5) (xe_mod (xe_var 6) xe_int))))) pa_nil)))))))
theorem sc__law_over : FnScope n__law_over ["_law_row", "_law_other"] (defScope (top 58)) := ⟨rfl, rfl, rfl, by decide +kernel, rfl, by decide +kernel, by decide +kernel⟩
theorem c__law_over (T : Txt K mg) (D : De K mg "_law_over" (top 58)) : C8.Cal P w K mg base 1 "_law_over" (spD 2 (runD n__law_over (t__law_over))) [] := by
  obtain ⟨f, fd, F, hm⟩ := D.ex
  refine ⟨f, fd, ["_law_row", "_law_other"], [], fnD F sc__law_over (fun cdv A outer s H E hr => ?_), hm, F.kp, F.bindsN (fun _ _ _ _ _ _ us hl => match us, hl with | [_, _], _ => rfl), .nil⟩
  exact (xss_one (xs_ret (xe_and (xe_eq (xe_len (by rfl) T.len (xa_cons (xe_var 0) xa_nil)) (xe_len (by rfl) T.len (xa_cons (xe_var 1) xa_nil))) (xe_one (xe_all (by rfl) (by rfl) T.all (xa_cons (xe_lc rfl sc__law_over.nd (xi_zipS (by rfl) T.zip (xe_var 0) (xe_var 1)) (blkOk_by (own := [("_law_one", 2), ("_law_new", 3)]) (by kernel_rfl)) (by decide) (fun _ _ _ _ _ => (xg_tup rfl (xgs_cons (xg_st false (i := 2) sc__law_over.nd rfl (by first | exact Or.inl rfl | exact Or.inr rfl)) (xgs_cons (xg_st false (i := 3) sc__law_over.nd rfl (by first | exact Or.inl rfl | exact Or.inr rfl)) xgs_nil)) gl_two)) (fun _ _ _ _ _ => xts_nil) (fun _ _ _ _ _ => (xe_or (xe_eq (xe_var 2) xe_str) (xe_one (xe_eq (xe_var 3) xe_str))))) xa_nil))))))
theorem sc__law_means : FnScope n__law_means ["_law_reader_here", "_law_row"] (defScope (top 59)) := ⟨rfl, rfl, rfl, by decide +kernel, rfl, by decide +kernel, by decide +kernel⟩
theorem c__law_means (T : Txt K mg) (D : De K mg "_law_means" (top 59)) : C8.Cal P w K mg base 1 "_law_means" (spD 2 (runD n__law_means (t__law_means))) [] := by
  obtain ⟨f, fd, F, hm⟩ := D.ex
  refine ⟨f, fd, ["_law_reader_here", "_law_row"], [], fnD F sc__law_means (fun cdv A outer s H E hr => ?_), hm, F.kp, F.bindsN (fun _ _ _ _ _ _ us hl => match us, hl with | [_, _], _ => rfl), .nil⟩
  exact (xss_one (xs_ret (xe_if (xt_din (pt_cmp (pc_din (Room.u1 hr) (xe_var 1) (xe_var 0)) (by rfl))) (xe_dget (pe_dget (Room.u1 hr) (xe_var 0) (xe_var 1) (by exact fun _ _ => rfl))) xe_str)))
theorem sc__law_reads : FnScope n__law_reads ["_law_reader_here", "_law_tape_here"] (defScope (top 60)) := ⟨rfl, rfl, rfl, by decide +kernel, rfl, by decide +kernel, by decide +kernel⟩
theorem c__law_reads {f__law_means : DF} (T : Txt K mg) (D : De K mg "_law_reads" (top 60)) (c__law_means : C8.Cal P w K mg base 1 "_law_means" (spD 2 f__law_means) []) : C8.Cal P w K mg base 2 "_law_reads" (spD 2 (runD n__law_reads (t__law_reads f__law_means))) [] := by
  obtain ⟨f, fd, F, hm⟩ := D.ex
  refine ⟨f, fd, ["_law_reader_here", "_law_tape_here"], [], fnD F sc__law_reads (fun cdv A outer s H E hr => ?_), hm, F.kp, F.bindsN (fun _ _ _ _ _ _ us hl => match us, hl with | [_, _], _ => rfl), .nil⟩
  exact (xss_one (xs_ret (xe_join xe_str (xe_lc rfl sc__law_reads.nd (xi_list (xe_var 1)) (blkOk_by (own := [("_law_row", 2)]) (by kernel_rfl)) (by decide) (fun _ _ _ _ _ => (xg_st false (i := 2) sc__law_reads.nd rfl (by first | exact Or.inl rfl | exact Or.inr rfl))) (fun _ _ _ _ _ => xts_nil) (fun _ _ _ _ _ => (xe_call c__law_means hr (by decide) (by rfl) (xa_cons (xe_var 0) (xa_cons (xe_var 2) xa_nil))))) (pe_bm PySem.F.plainAttrs_str PySem.F.slot_str_join PySem.F.type_str_join mt_join xe_str (pa_cons (xe_lc rfl sc__law_reads.nd (xi_list (xe_var 1)) (blkOk_by (own := [("_law_row", 2)]) (by kernel_rfl)) (by decide) (fun _ _ _ _ _ => (xg_st false (i := 2) sc__law_reads.nd rfl (by first | exact Or.inl rfl | exact Or.inr rfl))) (fun _ _ _ _ _ => xts_nil) (fun _ _ _ _ _ => (xe_call c__law_means hr (by decide) (by rfl) (xa_cons (xe_var 0) (xa_cons (xe_var 2) xa_nil))))) pa_nil)))))
theorem sc__law_holes : FnScope n__law_holes ["_law_tape_here"] (defScope (top 61)) := ⟨rfl, rfl, rfl, by decide +kernel, rfl, by decide +kernel, by decide +kernel⟩
theorem c__law_holes (T : Txt K mg) (D : De K mg "_law_holes" (top 61)) : C8.Cal P w K mg base 1 "_law_holes" (spD 1 (runD n__law_holes (t__law_holes))) [] := by
  obtain ⟨f, fd, F, hm⟩ := D.ex
  refine ⟨f, fd, ["_law_tape_here"], [], fnD F sc__law_holes (fun cdv A outer s H E hr => ?_), hm, F.kp, F.bindsN (fun _ _ _ _ _ _ us hl => match us, hl with | [_], _ => rfl), .nil⟩
  exact (xss_one (xs_ret (xe_sum (by rfl) (by rfl) T.sum (xa_cons (xe_lc rfl sc__law_holes.nd (xi_list (xe_var 0)) (blkOk_by (own := [("_law_row", 1)]) (by kernel_rfl)) (by decide) (fun _ _ _ _ _ => (xg_st false (i := 1) sc__law_holes.nd rfl (by first | exact Or.inl rfl | exact Or.inr rfl))) (fun _ _ _ _ _ => xts_nil) (fun _ _ _ _ _ => (xe_len (by rfl) T.len (xa_cons (xe_lc rfl sc__law_holes.nd (xi_str (xe_var 1)) (blkOk_by (own := [("_law_sign", 2)]) (by kernel_rfl)) (by decide) (fun _ _ _ _ _ => (xg_st false (i := 2) sc__law_holes.nd rfl (by first | exact Or.inl rfl | exact Or.inr rfl))) (fun _ _ _ _ _ => (xts_one (xt_eq (xe_var 2) xe_str))) (fun _ _ _ _ _ => (xe_var 2))) xa_nil)))) xa_nil))))
theorem sc__law_can : FnScope n__law_can ["_law_tape_here", "_law_other"] (defScope (top 62)) := ⟨rfl, rfl, rfl, by decide +kernel, rfl, by decide +kernel, by decide +kernel⟩
theorem c__law_can {f__law_over : DF} (T : Txt K mg) (D : De K mg "_law_can" (top 62)) (c__law_over : C8.Cal P w K mg base 1 "_law_over" (spD 2 f__law_over) []) : C8.Cal P w K mg base 2 "_law_can" (spD 2 (runD n__law_can (t__law_can f__law_over))) [] := by
  obtain ⟨f, fd, F, hm⟩ := D.ex
  refine ⟨f, fd, ["_law_tape_here", "_law_other"], [], fnD F sc__law_can (fun cdv A outer s H E hr => ?_), hm, F.kp, F.bindsN (fun _ _ _ _ _ _ us hl => match us, hl with | [_, _], _ => rfl), .nil⟩
  exact (xss_one (xs_ret (xe_and (xe_eq (xe_len (by rfl) T.len (xa_cons (xe_var 0) xa_nil)) (xe_len (by rfl) T.len (xa_cons (xe_var 1) xa_nil))) (xe_one (xe_all (by rfl) (by rfl) T.all (xa_cons (xe_lc rfl sc__law_can.nd (xi_zip (by rfl) T.zip (xe_var 0) (xe_var 1)) (blkOk_by (own := [("_law_row", 2), ("_law_new", 3)]) (by kernel_rfl)) (by decide) (fun _ _ _ _ _ => (xg_tup rfl (xgs_cons (xg_st false (i := 2) sc__law_can.nd rfl (by first | exact Or.inl rfl | exact Or.inr rfl)) (xgs_cons (xg_st false (i := 3) sc__law_can.nd rfl (by first | exact Or.inl rfl | exact Or.inr rfl)) xgs_nil)) gl_two)) (fun _ _ _ _ _ => xts_nil) (fun _ _ _ _ _ => (xe_call c__law_over hr (by decide) (by rfl) (xa_cons (xe_var 2) (xa_cons (xe_var 3) xa_nil))))) xa_nil))))))
theorem sc__law_cost : FnScope n__law_cost ["_law_reader_here", "_law_row", "_law_letter"] (defScope (top 63)) := ⟨rfl, rfl, rfl, by decide +kernel, rfl, by decide +kernel, by decide +kernel⟩
theorem c__law_cost {f__law_rows : DF} {f__law_over : DF} {f__law_means : DF} {f__law_holes : DF} (T : Txt K mg) (D : De K mg "_law_cost" (top 63)) (c__law_rows : C8.Cal P w K mg base 1 "_law_rows" (spD 1 f__law_rows) []) (c__law_over : C8.Cal P w K mg base 1 "_law_over" (spD 2 f__law_over) []) (c__law_means : C8.Cal P w K mg base 1 "_law_means" (spD 2 f__law_means) []) (c__law_holes : C8.Cal P w K mg base 1 "_law_holes" (spD 1 f__law_holes) []) : C8.Cal P w K mg base 2 "_law_cost" (spD 3 (runD n__law_cost (t__law_cost f__law_rows f__law_over f__law_means f__law_holes))) [] := by
  obtain ⟨f, fd, F, hm⟩ := D.ex
  refine ⟨f, fd, ["_law_reader_here", "_law_row", "_law_letter"], [], fnD F sc__law_cost (fun cdv A outer s H E hr => ?_), hm, F.kp, F.bindsN (fun _ _ _ _ _ _ us hl => match us, hl with | [_, _, _], _ => rfl), .nil⟩
  exact (xss_cons (xs_set true (i := 3) sc__law_cost.nd rfl (by first | exact Or.inl rfl | exact Or.inr rfl) (xe_lst xa_nil))
      (xss_cons (xs_for PassesOwn.never rfl (xi_list (xe_call c__law_rows hr (by decide) (by rfl) (xa_cons (xe_len (by rfl) T.len (xa_cons (xe_var 1) xa_nil)) xa_nil))) (xg_st false (i := 4) sc__law_cost.nd rfl (by first | exact Or.inl rfl | exact Or.inr rfl)) (xss_one (xs_if (xt_w (xw_and (xt_val (xe_call c__law_over hr (by decide) (by rfl) (xa_cons (xe_var 1) (xa_cons (xe_var 4) xa_nil)))) (xw_and1 (xt_eq (xe_call c__law_means hr (by decide) (by rfl) (xa_cons (xe_var 0) (xa_cons (xe_var 4) xa_nil))) (xe_var 2))))) (xss_one (xs_append 3 rfl (by first | exact Or.inl rfl | exact Or.inr (Or.inl rfl) | exact Or.inr (Or.inr rfl)) (xe_sub (xe_call c__law_holes hr (by decide) (by rfl) (xa_cons (xe_fz (xe_lst (xa_cons (xe_var 4) xa_nil))) xa_nil)) (xe_call c__law_holes hr (by decide) (by rfl) (xa_cons (xe_fz (xe_lst (xa_cons (xe_var 1) xa_nil))) xa_nil))) (pe_bm PySem.F.plainAttrs_list PySem.F.slot_list_append PySem.F.type_list_append mt_append (pv 3) (pa_cons (xe_sub (xe_call c__law_holes hr (by decide) (by rfl) (xa_cons (xe_fz (xe_lst (xa_cons (xe_var 4) xa_nil))) xa_nil)) (xe_call c__law_holes hr (by decide) (by rfl) (xa_cons (xe_fz (xe_lst (xa_cons (xe_var 1) xa_nil))) xa_nil))) pa_nil)))) xss_nil)))
      (xss_one (xs_ret (xe_if (xt_neD (Room.u64 hr) (xe_var 3) (xe_lst xa_nil)) (xe_min (by rfl) (by rfl) T.min (xa_cons (xe_var 3) xa_nil)) xe_non)))))
theorem sc__law_fewest : FnScope n__law_fewest ["_law_reader_here", "_law_tape_here", "_law_text_here"] (defScope (top 64)) := ⟨rfl, rfl, rfl, by decide +kernel, rfl, by decide +kernel, by decide +kernel⟩
theorem c__law_fewest {f__law_cost : DF} (T : Txt K mg) (D : De K mg "_law_fewest" (top 64)) (c__law_cost : C8.Cal P w K mg base 2 "_law_cost" (spD 3 f__law_cost) []) : C8.Cal P w K mg base 3 "_law_fewest" (spD 3 (runD n__law_fewest (t__law_fewest f__law_cost))) [] := by
  obtain ⟨f, fd, F, hm⟩ := D.ex
  refine ⟨f, fd, ["_law_reader_here", "_law_tape_here", "_law_text_here"], [], fnD F sc__law_fewest (fun cdv A outer s H E hr => ?_), hm, F.kp, F.bindsN (fun _ _ _ _ _ _ us hl => match us, hl with | [_, _, _], _ => rfl), .nil⟩
  exact (xss_cons (xs_set true (i := 3) sc__law_fewest.nd rfl (by first | exact Or.inl rfl | exact Or.inr rfl) (xe_cat (xe_lst (xa_cons xe_int xa_nil)) (xe_rep (xe_lst (xa_cons xe_non xa_nil)) (xe_len (by rfl) T.len (xa_cons (xe_var 2) xa_nil)))))
      (xss_cons (xs_for PassesOwn.never rfl (xi_list (xe_var 1)) (xg_st false (i := 4) sc__law_fewest.nd rfl (by first | exact Or.inl rfl | exact Or.inr rfl)) (xss_cons (xs_frz 3 (xs_par3 false true false (i := 5) (j := 3) (l := 6) rfl sc__law_fewest.nd rfl rfl rfl (by decide) (by decide) (by decide) rfl rfl rfl (xe_var 3) (xe_lst xa_nil) (xe_call c__law_cost hr (by decide) (by rfl) (xa_cons (xe_var 0) (xa_cons (xe_var 4) (xa_cons xe_str xa_nil)))) rfl))
      (xss_one (xs_for PassesOwn.never rfl (xi_range1 (by rfl) T.range (xe_add (xe_len (by rfl) T.len (xa_cons (xe_var 2) xa_nil)) xe_int)) (xg_st false (i := 7) sc__law_fewest.nd rfl (by first | exact Or.inl rfl | exact Or.inr rfl)) (xss_cons (xs_set true (i := 8) sc__law_fewest.nd rfl (by first | exact Or.inl rfl | exact Or.inr rfl) (xe_if (xt_notN (xe_idx (xe_var 5) (xe_var 7)) xe_non) (xe_lst (xa_cons (xe_add (xe_idx (xe_var 5) (xe_var 7)) (xe_var 6)) xa_nil)) (xe_lst xa_nil)))
      (xss_cons (xs_if (xt_w (xw_and (xt_gt (xe_var 7) xe_int) (xw_and (xt_notN (xe_idx (xe_var 5) (xe_sub (xe_var 7) xe_int)) xe_non) (xw_and1 (xt_notN (xe_call c__law_cost hr (by decide) (by rfl) (xa_cons (xe_var 0) (xa_cons (xe_var 4) (xa_cons (xe_idx (xe_var 2) (xe_sub (xe_var 7) xe_int)) xa_nil)))) xe_non))))) (xss_one (xs_append 8 rfl (by first | exact Or.inl rfl | exact Or.inr (Or.inl rfl) | exact Or.inr (Or.inr rfl)) (xe_add (xe_idx (xe_var 5) (xe_sub (xe_var 7) xe_int)) (xe_call c__law_cost hr (by decide) (by rfl) (xa_cons (xe_var 0) (xa_cons (xe_var 4) (xa_cons (xe_idx (xe_var 2) (xe_sub (xe_var 7) xe_int)) xa_nil))))) (pe_bm PySem.F.plainAttrs_list PySem.F.slot_list_append PySem.F.type_list_append mt_append (pv 8) (pa_cons (xe_add (xe_idx (xe_var 5) (xe_sub (xe_var 7) xe_int)) (xe_call c__law_cost hr (by decide) (by rfl) (xa_cons (xe_var 0) (xa_cons (xe_var 4) (xa_cons (xe_idx (xe_var 2) (xe_sub (xe_var 7) xe_int)) xa_nil))))) pa_nil)))) xss_nil)
      (xss_one (xs_append 3 rfl (by first | exact Or.inl rfl | exact Or.inr (Or.inl rfl) | exact Or.inr (Or.inr rfl)) (xe_if (xt_neD (Room.u64 hr) (xe_var 8) (xe_lst xa_nil)) (xe_min (by rfl) (by rfl) T.min (xa_cons (xe_var 8) xa_nil)) xe_non) (pe_bm PySem.F.plainAttrs_list PySem.F.slot_list_append PySem.F.type_list_append mt_append (pv 3) (pa_cons (xe_if (xt_neD (Room.u64 hr) (xe_var 8) (xe_lst xa_nil)) (xe_min (by rfl) (by rfl) T.min (xa_cons (xe_var 8) xa_nil)) xe_non) pa_nil))))))))))
      (xss_one (xs_ret (xe_idx (xe_var 3) (xe_len (by rfl) T.len (xa_cons (xe_var 2) xa_nil)))))))
theorem sc__law_are_heights : FnScope n__law_are_heights ["_law_reader_here", "_law_tape_here", "_law_text_here", "_law_high"] (defScope (top 65)) := ⟨rfl, rfl, rfl, by decide +kernel, rfl, by decide +kernel, by decide +kernel⟩
theorem c__law_are_heights {f__law_cost : DF} (T : Txt K mg) (D : De K mg "_law_are_heights" (top 65)) (c__law_cost : C8.Cal P w K mg base 2 "_law_cost" (spD 3 f__law_cost) []) : C8.Cal P w K mg base 3 "_law_are_heights" (spD 4 (runD n__law_are_heights (t__law_are_heights f__law_cost))) [] := by
  obtain ⟨f, fd, F, hm⟩ := D.ex
  refine ⟨f, fd, ["_law_reader_here", "_law_tape_here", "_law_text_here", "_law_high"], [], fnD F sc__law_are_heights (fun cdv A outer s H E hr => ?_), hm, F.kp, F.bindsN (fun _ _ _ _ _ _ us hl => match us, hl with | [_, _, _, _], _ => rfl), .nil⟩
  exact (xss_cons (xs_if (xt_w (xw_or (xt_ne (xe_len (by rfl) T.len (xa_cons (xe_var 3) xa_nil)) (xe_add (xe_len (by rfl) T.len (xa_cons (xe_var 1) xa_nil)) xe_int)) (xw_or (xt_val (xe_any (by rfl) (by rfl) T.any (xa_cons (xe_lc rfl sc__law_are_heights.nd (xi_list (xe_var 3)) (blkOk_by (own := [("_law_row", 5)]) (by kernel_rfl)) (by decide) (fun _ _ _ _ _ => (xg_st false (i := 5) sc__law_are_heights.nd rfl (by first | exact Or.inl rfl | exact Or.inr rfl))) (fun _ _ _ _ _ => xts_nil) (fun _ _ _ _ _ => (xe_ne (xe_len (by rfl) T.len (xa_cons (xe_var 5) xa_nil)) (xe_add (xe_len (by rfl) T.len (xa_cons (xe_var 2) xa_nil)) xe_int)))) xa_nil))) (xw_or1 (xt_ne (xe_idx (xe_idx (xe_var 3) xe_int) xe_int) xe_int))))) (xss_one (xs_ret xe_bl)) xss_nil)
      (xss_cons (xs_for PassesOwn.never rfl (xi_enum (by rfl) T.enumerate (xe_var 1)) (xg_tup rfl (xgs_cons (xg_st false (i := 4) sc__law_are_heights.nd rfl (by first | exact Or.inl rfl | exact Or.inr rfl)) (xgs_cons (xg_st false (i := 5) sc__law_are_heights.nd rfl (by first | exact Or.inl rfl | exact Or.inr rfl)) xgs_nil)) gl_two) (xss_one (xs_for PassesOwn.never rfl (xi_range1 (by rfl) T.range (xe_add (xe_len (by rfl) T.len (xa_cons (xe_var 2) xa_nil)) xe_int)) (xg_st false (i := 6) sc__law_are_heights.nd rfl (by first | exact Or.inl rfl | exact Or.inr rfl)) (xss_cons (xs_if (xt_gt (xe_idx (xe_idx (xe_var 3) (xe_add (xe_var 4) xe_int)) (xe_var 6)) (xe_add (xe_idx (xe_idx (xe_var 3) (xe_var 4)) (xe_var 6)) (xe_call c__law_cost hr (by decide) (by rfl) (xa_cons (xe_var 0) (xa_cons (xe_var 5) (xa_cons xe_str xa_nil)))))) (xss_one (xs_ret xe_bl)) xss_nil)
      (xss_cons (xs_set false (i := 7) sc__law_are_heights.nd rfl (by first | exact Or.inl rfl | exact Or.inr rfl) (xe_if (xt_lt (xe_var 6) (xe_len (by rfl) T.len (xa_cons (xe_var 2) xa_nil))) (xe_call c__law_cost hr (by decide) (by rfl) (xa_cons (xe_var 0) (xa_cons (xe_var 5) (xa_cons (xe_idx (xe_var 2) (xe_var 6)) xa_nil)))) xe_non))
      (xss_one (xs_if (xt_w (xw_and (xt_notN (xe_var 7) xe_non) (xw_and1 (xt_gt (xe_idx (xe_idx (xe_var 3) (xe_add (xe_var 4) xe_int)) (xe_add (xe_var 6) xe_int)) (xe_add (xe_idx (xe_idx (xe_var 3) (xe_var 4)) (xe_var 6)) (xe_var 7)))))) (xss_one (xs_ret xe_bl)) xss_nil)))))))
      (xss_one (xs_ret xe_bl))))
theorem sc__law_are_marks : FnScope n__law_are_marks ["_law_reader_here", "_law_tape_here", "_law_text_here", "_law_marks"] (defScope (top 66)) := ⟨rfl, rfl, rfl, by decide +kernel, rfl, by decide +kernel, by decide +kernel⟩
theorem c__law_are_marks {f__law_cost : DF} (T : Txt K mg) (D : De K mg "_law_are_marks" (top 66)) (c__law_cost : C8.Cal P w K mg base 2 "_law_cost" (spD 3 f__law_cost) []) : C8.Cal P w K mg base 3 "_law_are_marks" (spD 4 (runD n__law_are_marks (t__law_are_marks f__law_cost))) [] := by
  obtain ⟨f, fd, F, hm⟩ := D.ex
  refine ⟨f, fd, ["_law_reader_here", "_law_tape_here", "_law_text_here", "_law_marks"], [], fnD F sc__law_are_marks (fun cdv A outer s H E hr => ?_), hm, F.kp, F.bindsN (fun _ _ _ _ _ _ us hl => match us, hl with | [_, _, _, _], _ => rfl), .nil⟩
  exact (xss_cons (xs_if (xt_w (xw_or (xt_ne (xe_len (by rfl) T.len (xa_cons (xe_var 3) xa_nil)) (xe_add (xe_len (by rfl) T.len (xa_cons (xe_var 1) xa_nil)) xe_int)) (xw_or (xt_ne (xe_idx (xe_var 3) xe_int) xe_int) (xw_or1 (xt_ge (xe_idx (xe_var 3) (xe_neg xe_int)) (xe_len (by rfl) T.len (xa_cons (xe_var 2) xa_nil))))))) (xss_one (xs_ret xe_bl)) xss_nil)
      (xss_cons (xs_for PassesOwn.never rfl (xi_zip3 (by rfl) T.zip (xe_var 1) (xe_var 3) (xe_fz (xe_slice (xe_var 3) (xo_some xe_int) xo_none))) (xg_tup rfl (xgs_cons (xg_st false (i := 4) sc__law_are_marks.nd rfl (by first | exact Or.inl rfl | exact Or.inr rfl)) (xgs_cons (xg_st false (i := 5) sc__law_are_marks.nd rfl (by first | exact Or.inl rfl | exact Or.inr rfl)) (xgs_cons (xg_st false (i := 6) sc__law_are_marks.nd rfl (by first | exact Or.inl rfl | exact Or.inr rfl)) xgs_nil))) gl_three) (xss_cons (xs_set false (i := 7) sc__law_are_marks.nd rfl (by first | exact Or.inl rfl | exact Or.inr rfl) (xe_and (xe_lt (xe_var 5) (xe_len (by rfl) T.len (xa_cons (xe_var 2) xa_nil))) (xe_one (xe_notN (xe_call c__law_cost hr (by decide) (by rfl) (xa_cons (xe_var 0) (xa_cons (xe_var 4) (xa_cons (xe_idx (xe_var 2) (xe_var 5)) xa_nil)))) xe_non))))
      (xss_one (xs_if (xt_lt (xe_var 6) (xe_add (xe_var 5) (xe_toInt (by rfl) T.int_ (xa_cons (xe_var 7) xa_nil)))) (xss_one (xs_ret xe_bl)) xss_nil))))
      (xss_one (xs_ret xe_bl))))
theorem sc__law_kinds : FnScope n__law_kinds ["_law_told"] (defScope (top 67)) := ⟨rfl, rfl, rfl, by decide +kernel, rfl, by decide +kernel, by decide +kernel⟩
theorem c__law_kinds (T : Txt K mg) (D : De K mg "_law_kinds" (top 67)) : C8.Cal P w K mg base 1 "_law_kinds" (spD 1 (runD n__law_kinds (t__law_kinds K T.c_Answer T.c_Barred T.c_Bears T.c_Breaks T.c_Never T.c_Stood T.c_Written))) [] := by
  obtain ⟨f, fd, F, hm⟩ := D.ex
  refine ⟨f, fd, ["_law_told"], [], fnD F sc__law_kinds (fun cdv A outer s H E hr => ?_), hm, F.kp, F.bindsN (fun _ _ _ _ _ _ us hl => match us, hl with | [_], _ => rfl), .nil⟩
  exact (xss_cons (xs_set false (i := 1) sc__law_kinds.nd rfl (by first | exact Or.inl rfl | exact Or.inr rfl) (xe_lst (xa_cons (xe_isiC (by rfl) T.isinstance (xa_cons (xe_var 0) (xa_cons (xe_gat (by rfl) T.a_Written) xa_nil))) (xa_cons (xe_isiC (by rfl) T.isinstance (xa_cons (xe_var 0) (xa_cons (xe_gat (by rfl) T.a_Barred) xa_nil))) (xa_cons (xe_isiC (by rfl) T.isinstance (xa_cons (xe_var 0) (xa_cons (xe_gat (by rfl) T.a_Stood) xa_nil))) (xa_cons (xe_isiC (by rfl) T.isinstance (xa_cons (xe_var 0) (xa_cons (xe_gat (by rfl) T.a_Never) xa_nil))) xa_nil))))))
      (xss_one (xs_ret (xe_cat (xe_var 1) (xe_lst (xa_cons (xe_isiC (by rfl) T.isinstance (xa_cons (xe_var 0) (xa_cons (xe_gat (by rfl) T.a_Bears) xa_nil))) (xa_cons (xe_isiC (by rfl) T.isinstance (xa_cons (xe_var 0) (xa_cons (xe_gat (by rfl) T.a_Breaks) xa_nil))) (xa_cons (xe_not (xe_isiC (by rfl) T.isinstance (xa_cons (xe_var 0) (xa_cons (xe_gat (by rfl) T.a_Answer) xa_nil)))) xa_nil))))))))
theorem sc__law_whole : FnScope n__law_whole ["_law_number"] (defScope (top 68)) := ⟨rfl, rfl, rfl, by decide +kernel, rfl, by decide +kernel, by decide +kernel⟩
theorem c__law_whole (T : Txt K mg) (D : De K mg "_law_whole" (top 68)) : C8.Cal P w K mg base 1 "_law_whole" (spD 1 (runD n__law_whole (t__law_whole))) [] := by
  obtain ⟨f, fd, F, hm⟩ := D.ex
  refine ⟨f, fd, ["_law_number"], [], fnD F sc__law_whole (fun cdv A outer s H E hr => ?_), hm, F.kp, F.bindsN (fun _ _ _ _ _ _ us hl => match us, hl with | [_], _ => rfl), .nil⟩
  exact (xss_one (xs_ret (xe_and (xe_isi (by rfl) T.isinstance (xa_cons (xe_var 0) (xa_cons (xe_ty (n := "int") (by rfl) T.int_ (by decide +kernel) rfl) xa_nil))) (xe_one (xe_not (xe_isi (by rfl) T.isinstance (xa_cons (xe_var 0) (xa_cons (xe_ty (n := "bool") (by rfl) T.bool_ (by decide +kernel) rfl) xa_nil))))))))
theorem sc_law : FnScope n_law ["_law_script"] (defScope (top 70)) := ⟨rfl, rfl, rfl, by decide +kernel, rfl, by decide +kernel, by decide +kernel⟩
theorem c_law {f__law_pool : DF} {f__law_reader : DF} {f__law_width : DF} {f__law_digits : DF} {f__law_tape : DF} {f__law_text : DF} {f__law_reads : DF} {f__law_write_right : DF} {f_write : DF} (T : Txt K mg) (D : De K mg "law" (top 70)) (c__law_pool : C8.Cal P w K mg base 4 "_law_pool" (spD 2 f__law_pool) []) (c__law_reader : C8.Cal P w K mg base 4 "_law_reader" (spD 4 f__law_reader) []) (c__law_width : C8.Cal P w K mg base 1 "_law_width" (spD 1 f__law_width) []) (c__law_digits : C8.Cal P w K mg base 3 "_law_digits" (spD 4 f__law_digits) []) (c__law_tape : C8.Cal P w K mg base 4 "_law_tape" (spD 4 f__law_tape) []) (c__law_text : C8.Cal P w K mg base 4 "_law_text" (spD 4 f__law_text) []) (c__law_reads : C8.Cal P w K mg base 2 "_law_reads" (spD 2 f__law_reads) []) (c__law_write_right : C8.Cal P w K mg base 10 "_law_write_right" (spD 3 f__law_write_right) []) (c_write : C8.Cal P w K mg base 8 "write" (spD 3 f_write) []) : C8.Cal P w K mg base 11 "law" (spD 1 (runD n_law (t_law K T.c_Barred f__law_pool f__law_reader f__law_width f__law_digits f__law_tape f__law_text f__law_reads f__law_write_right f_write))) [] := by
  obtain ⟨f, fd, F, hm⟩ := D.ex
  refine ⟨f, fd, ["_law_script"], [], fnD F sc_law (fun cdv A outer s H E hr => ?_), hm, F.kp, F.bindsN (fun _ _ _ _ _ _ us hl => match us, hl with | [_], _ => rfl), .nil⟩
  exact (xss_cons (xs_set false (i := 0) sc_law.nd rfl (by first | exact Or.inl rfl | exact Or.inr rfl) (xe_slice (xe_var 0) xo_none (xo_some xe_int)))
      (xss_cons (xs_set false (i := 1) sc_law.nd rfl (by first | exact Or.inl rfl | exact Or.inr rfl) (xe_call c__law_pool hr (by decide) (by rfl) (xa_cons (xe_var 0) (xa_cons xe_int xa_nil))))
      (xss_cons (xs_for PassesOwn.never rfl (xi_range2 (by rfl) T.range xe_int (xe_max2 (by rfl) (by rfl) T.max (xa_cons xe_int (xa_cons (xe_min2 (by rfl) (by rfl) T.min (xa_cons xe_int (xa_cons (xe_len (by rfl) T.len (xa_cons (xe_var 0) xa_nil)) xa_nil))) xa_nil)))) (xg_st false (i := 2) sc_law.nd rfl (by first | exact Or.inl rfl | exact Or.inr rfl)) (xss_cons (xs_set false (i := 3) sc_law.nd rfl (by first | exact Or.inl rfl | exact Or.inr rfl) (xe_call c__law_reader hr (by decide) (by rfl) (xa_cons (xe_var 0) (xa_cons (xe_var 2) (xa_cons (xe_var 1) (xa_cons xe_int xa_nil))))))
      (xss_cons (xs_par false false (i := 4) (j := 5) rfl sc_law.nd rfl rfl (by decide) rfl rfl (xe_call c__law_width hr (by decide) (by rfl) (xa_cons (xe_var 3) xa_nil)) (xe_call c__law_digits hr (by decide) (by rfl) (xa_cons (xe_var 0) (xa_cons (xe_add (xe_var 2) xe_int) (xa_cons xe_int (xa_cons xe_int xa_nil))))) rfl)
      (xss_cons (xs_set false (i := 6) sc_law.nd rfl (by first | exact Or.inl rfl | exact Or.inr rfl) (xe_call c__law_tape hr (by decide) (by rfl) (xa_cons (xe_var 0) (xa_cons (xe_add (xe_var 2) xe_int) (xa_cons (xe_var 4) (xa_cons (xe_if (xt_eq (xe_mod (xe_idx (xe_var 5) xe_int) xe_int) xe_int) xe_int (xe_mod (xe_idx (xe_var 5) xe_int) xe_int)) xa_nil))))))
      (xss_cons (xs_set false (i := 7) sc_law.nd rfl (by first | exact Or.inl rfl | exact Or.inr rfl) (xe_call c__law_text hr (by decide) (by rfl) (xa_cons (xe_var 0) (xa_cons (xe_add (xe_var 2) xe_int) (xa_cons (xe_var 1) (xa_cons (xe_mod (xe_mod (xe_idx (xe_var 5) xe_int) (xe_add (xe_len (by rfl) T.len (xa_cons (xe_var 6) xa_nil)) xe_int)) xe_int) xa_nil))))))
      (xss_cons (xs_set false (i := 8) sc_law.nd rfl (by first | exact Or.inl rfl | exact Or.inr rfl) (xe_call c__law_reads hr (by decide) (by rfl) (xa_cons (xe_var 3) (xa_cons (xe_var 6) xa_nil))))
      (xss_one (xs_for PassesOwn.never rfl (xi_tup (xe_tup (xa_cons (xe_var 7) (xa_cons (xe_slice (xe_var 7) xo_none (xo_some (xe_add xe_int (xe_mod (xe_idx (xe_var 5) xe_int) xe_int)))) (xa_cons (xe_var 8) (xa_cons (xe_slice (xe_var 8) (xo_some xe_int) xo_none) (xa_cons (xe_catS (xe_str2 (xe_var 8)) (xe_idx (xe_var 1) xe_int)) (xa_cons (xe_repS (xe_idx (xe_var 1) xe_int) (xe_mod (xe_idx (xe_var 5) xe_int) xe_int)) xa_nil)))))))) (xg_st false (i := 9) sc_law.nd rfl (by first | exact Or.inl rfl | exact Or.inr rfl)) (xss_one (xs_if (xt_not (xt_val (xe_call c__law_write_right hr (by decide) (by rfl) (xa_cons (xe_var 3) (xa_cons (xe_var 6) (xa_cons (xe_slice (xe_var 9) xo_none (xo_some xe_int)) xa_nil)))))) (xss_one (xs_ret xe_bl)) xss_nil))))))))))
      (xss_cons (xs_set false (i := 10) sc_law.nd rfl (by first | exact Or.inl rfl | exact Or.inr rfl) (xe_call c_write hr (by decide) (by rfl) (xa_cons (xe_fz (xe_disp1 xe_str xe_str)) (xa_cons (xe_fz (xe_lst (xa_cons xe_str xa_nil))) (xa_cons xe_str xa_nil)))))
      (xss_one (xs_ret (xe_and (xe_isiC (by rfl) T.isinstance (xa_cons (xe_var 10) (xa_cons (xe_gat (by rfl) T.a_Barred) xa_nil))) (xe_and (xe_eqD (Room.u64 hr) (xe_fld (xe_var 10)) (xe_lst (xa_cons xe_int (xa_cons xe_int xa_nil)))) (xe_one (xe_eqD (Room.u64 hr) (xe_fld (xe_call c_write hr (by decide) (by rfl) (xa_cons (xe_fz (xe_disp1 xe_str xe_str)) (xa_cons (xe_fz (xe_lst xa_nil)) (xa_cons xe_str xa_nil))))) (xe_lst (xa_cons (xe_fz (xe_lst (xa_cons xe_int xa_nil))) xa_nil))))))))))))
end
end W02
set_option Elab.async false
set_option linter.all false
set_option maxRecDepth 100000
set_option maxHeartbeats 4000000
/-! By hand: what is made. -/
namespace H2
open PySem PySem.Spec PyProof.Rows L2 Dl M W02 R2
structure NewB (J0 H0 J' H' : Hp) (C : Addr) (ms : List Int) (v : V) : Prop where
  ex : ∃ x dx p : Addr, v = .ref x ∧ H0 x = none ∧ H0 p = none ∧ p ≠ x ∧ H' x = some (.ins C dx [("marks", .ref p)]) ∧ H' p = some (.lst (ms.map V.int)) ∧ J' x = none ∧ J' p = none ∧ Ext J0 H0 J' H'
structure NewW (J0 H0 J' H' : Hp) (C : Addr) (ts : List Str) (hs : List (List Int)) (v : V) : Prop where
  ex : ∃ (x dx p : Addr) (hv : V), v = .ref x ∧ H0 x = none ∧ H0 p = none ∧ p ≠ x ∧ H' x = some (.ins C dx [("tape", .ref p), ("heights", hv)]) ∧ H' p = some (.lst (ts.map V.str)) ∧ J' x = none ∧ J' p = none ∧ Rep J' (iiD hs) hv ∧ Ext J0 H0 J' H'
def spBi (C : Addr) : Sp := fun vs H Q _ => ∃ (J H1 : Hp) (x dx : Addr) (ms : List Int) (v : V), vs = [.ref x, v] ∧ H1 x = none ∧ H1 dx = none ∧ dx ≠ x ∧ H = upd (upd H1 dx (.own x)) x (.ins C dx []) ∧ Same J H1 ∧ Rep J (iD ms) v ∧ ∀ J' H', NewB J H1 J' H' C ms (.ref x) → Q .non H'
theorem rep_iD {J : Hp} {ms : List Int} {v : V} (h : Rep J (iD ms) v) : ∃ p, v = .ref p ∧ J p = some (.lst (ms.map V.int)) := by
  unfold iD at h
  simp only [Rep] at h
  obtain ⟨p, vs, h1, h2, h3⟩ := h
  exact ⟨p, h1, by rw [← h3.ints]; exact h2⟩
theorem rep_sD {J : Hp} {ts : List Str} {v : V} (h : Rep J (sD ts) v) : ∃ p, v = .ref p ∧ J p = some (.lst (ts.map V.str)) := by
  unfold sD at h
  simp only [Rep] at h
  obtain ⟨p, vs, h1, h2, h3⟩ := h
  exact ⟨p, h1, by rw [← h3.strs]; exact h2⟩
section
variable {P : Program} {w : World} {K : PySem.W.Frag} {mg : Str → Option Value} {base : Heap}
theorem scBi : FnScope ["self", "marks"] ["self", "marks"] (defScope (inClass (top 31) 0)) := ⟨rfl, rfl, rfl, by decide +kernel, rfl, by decide +kernel, by decide +kernel⟩
theorem ok_Bi (T : W02.Txt K mg) (hc : Cls K T.c_Barred) (hn : NoAttr K T.c_Barred "marks") {f : Addr} {fd : FuncData} (F : FunD K "__init__" "Barred.__init__" (defArgs (inClass (top 31) 0)) (defBody (inClass (top 31) 0)) (defScope (inClass (top 31) 0)) [] [] f fd) :
    FnOk P w K mg base C8.CX0 1 f fd ["self", "marks"] (spBi T.c_Barred) := by
  refine F.ok scBi (fun vs H Q E h => ?_) (fun cdv A outer s H vs Q E hr h => ?_)
  · obtain ⟨J, H1, x, dx, ms, v, rfl, _⟩ := h
    rfl
  · obtain ⟨J, H1, x, dx, ms, v, rfl, hx, hdx, hne, rfl, sJ, rv, k⟩ := h
    obtain ⟨p0, rfl, hp0⟩ := rep_iD rv
    refine ⟨_, PSs.nox (pss_one (ps_fld (pv 0) (pe_callTy call_list_of (by rfl) T.list_ (by decide +kernel) (pa_cons (pv 1) pa_nil)) rfl)), ?_⟩
    have hp1 := sJ _ _ hp0
    have n1 : p0 ≠ x := ne_of_none hp1 hx
    have n2 : p0 ≠ dx := ne_of_none hp1 hdx
    have hH : upd (upd H1 dx (.own x)) x (.ins T.c_Barred dx []) p0 = some (.lst (ms.map V.int)) := by rw [upd_ne n1, upd_ne n2]; exact hp1
    refine ⟨_, rfl, p0, ms.map V.int, rfl, .inl (SqL.of hH), fun l hl => ?_⟩
    have nlx : l ≠ x := fun z => by rw [z, upd_same] at hl; cases hl
    rw [upd_ne nlx] at hl
    have nld : l ≠ dx := fun z => by rw [z, upd_same] at hl; cases hl
    rw [upd_ne nld] at hl
    refine ⟨_, rfl, x, T.c_Barred, dx, [], rfl, by rw [upd_ne (Ne.symm nlx), upd_same], hc, hn, by show 0 < 1000; decide, ?_⟩
    refine k J _ ⟨x, dx, l, rfl, hx, hl, nlx, upd_same, by rw [upd_ne nlx, upd_same], sJ.free hx, sJ.free hl, Ext.grow sJ fun b o q => ?_⟩
    rw [upd_ne (ne_of_none q hx), upd_ne (ne_of_none q hl), upd_ne (ne_of_none q hx), upd_ne (ne_of_none q hdx)]
    exact q
def spWi (C : Addr) : Sp := fun vs H Q _ => ∃ (J H1 : Hp) (x dx : Addr) (ts : List Str) (hs : List (List Int)) (v1 v2 : V), vs = [.ref x, v1, v2] ∧ H1 x = none ∧ H1 dx = none ∧ dx ≠ x ∧ H = upd (upd H1 dx (.own x)) x (.ins C dx []) ∧ Same J H1 ∧ Rep J (sD ts) v1 ∧ Rep J (iiD hs) v2 ∧ hs.length ≤ 1000 ∧ ∀ J' H', NewW J H1 J' H' C ts hs (.ref x) → Q .non H'
theorem scWi : FnScope ["self", "tape", "heights", "row"] ["self", "tape", "heights"] (defScope (inClass (top 30) 0)) := ⟨rfl, rfl, rfl, by decide +kernel, rfl, by decide +kernel, by decide +kernel⟩
theorem ok_Wi (T : W02.Txt K mg) (hc : Cls K T.c_Written) (hnt : NoAttr K T.c_Written "tape") (hnh : NoAttr K T.c_Written "heights") {f : Addr} {fd : FuncData} (F : FunD K "__init__" "Written.__init__" (defArgs (inClass (top 30) 0)) (defBody (inClass (top 30) 0)) (defScope (inClass (top 30) 0)) [] [] f fd) :
    FnOk P w K mg base C8.CX0 1 f fd ["self", "tape", "heights"] (spWi T.c_Written) := by
  refine F.ok scWi (fun vs H Q E h => ?_) (fun cdv A outer s H vs Q E hr h => ?_)
  · obtain ⟨J, H1, x, dx, ts, hs, v1, v2, rfl, _⟩ := h
    rfl
  · obtain ⟨J, H1, x, dx, ts, hs, v1, v2, rfl, hx, hdx, hne, rfl, sJ, r1, r2, hlen, k⟩ := h
    obtain ⟨p0, rfl, hp0⟩ := rep_sD r1
    refine ⟨_, PSs.nox (pss_cons (ps_fld (pv 0) (pe_callTy call_list_of (by rfl) T.list_ (by decide +kernel) (pa_cons (pv 1) pa_nil)) rfl)
      (pss_one (ps_fld (pv 0) (xe_lc rfl scWi.nd (xi_list (xe_var 2)) (blkOk_by (own := [("row", 3)]) (by kernel_rfl)) (by decide) (fun _ _ _ _ _ => (xg_st false (i := 3) scWi.nd rfl (by first | exact Or.inl rfl | exact Or.inr rfl))) (fun _ _ _ _ _ => xts_nil) (fun _ _ _ _ _ => (xe_list (by rfl) (by rfl) T.list_ (xa_cons (xe_var 3) xa_nil)))) rfl))), ?_⟩
    have hp1 := sJ _ _ hp0
    have n1 : p0 ≠ x := ne_of_none hp1 hx
    have n2 : p0 ≠ dx := ne_of_none hp1 hdx
    have hH : upd (upd H1 dx (.own x)) x (.ins T.c_Written dx []) p0 = some (.lst (ts.map V.str)) := by rw [upd_ne n1, upd_ne n2]; exact hp1
    refine ⟨_, rfl, p0, ts.map V.str, rfl, .inl (SqL.of hH), fun l hl => ?_⟩
    have nlx : l ≠ x := fun z => by rw [z, upd_same] at hl; cases hl
    rw [upd_ne nlx] at hl
    have nld : l ≠ dx := fun z => by rw [z, upd_same] at hl; cases hl
    rw [upd_ne nld] at hl
    refine ⟨_, rfl, x, T.c_Written, dx, [], rfl, by rw [upd_ne (Ne.symm nlx), upd_same], hc, hnt, by show 0 < 1000; decide, ?_⟩
    have sA : Same H1 (upd (upd (upd (upd H1 dx (.own x)) x (.ins T.c_Written dx [])) l (.lst (ts.map V.str))) x (.ins T.c_Written dx (putF "tape" (.ref l) []))) := fun b o q => by
      rw [upd_ne (ne_of_none q hx), upd_ne (ne_of_none q hl), upd_ne (ne_of_none q hx), upd_ne (ne_of_none q hdx)]
      exact q
    have gx : upd (upd (upd (upd H1 dx (.own x)) x (.ins T.c_Written dx [])) l (.lst (ts.map V.str))) x (.ins T.c_Written dx (putF "tape" (.ref l) [])) x = some (.ins T.c_Written dx [("tape", .ref l)]) := upd_same
    have gl : upd (upd (upd (upd H1 dx (.own x)) x (.ins T.c_Written dx [])) l (.lst (ts.map V.str))) x (.ins T.c_Written dx (putF "tape" (.ref l) [])) l = some (.lst (ts.map V.str)) := by rw [upd_ne nlx, upd_same]
    generalize upd (upd (upd (upd H1 dx (.own x)) x (.ins T.c_Written dx [])) l (.lst (ts.map V.str))) x (.ins T.c_Written dx (putF "tape" (.ref l) [])) = Ha at sA gx gl
    have hjx : J x = none := sJ.free hx
    have hjl : J l = none := sJ.free hl
    refine ⟨J, _, fun r => r = .nw (iiD hs), start_ok (ds := [.at x, sD ts, iiD hs]) (sJ.trans sA) (.cons rp_at (.cons r1 (.one r2))), ?_, fun r hr v J' H' e rr => ?_⟩
    · refine ⟨by rw [List.length_map]; omega, ?_⟩
      exact lc_map' iD iD hs _ _ (fun _ _ N h => h) (fun l hl Y hY => hY) rfl
    · subst hr
      obtain ⟨p, o, rfl, g1, g2, g3, g4⟩ := rr
      have hx' := e.h _ _ gx
      have hl' := e.h _ _ gl
      have jx' := e.out hjx gx
      have jl' := e.out hjl gl
      have npx : p ≠ x := fun z => by rw [z, gx] at g1; cases g1
      have npl : p ≠ l := fun z => by rw [z, gl] at g1; cases g1
      refine ⟨_, ?_, x, T.c_Written, dx, [("tape", .ref l)], rfl, hx', hc, hnh, by show 1 < 1000; decide, ?_⟩
      · rfl
      · have ep : putF "heights" (V.ref p) ([("tape", V.ref l)] : List (Str × V)) = ([("tape", V.ref l), ("heights", V.ref p)] : List (Str × V)) := by
          show (if ("tape" : Str) = "heights" then (("tape" : Str), V.ref p) :: [] else (("tape" : Str), V.ref l) :: putF "heights" (V.ref p) []) = _
          rw [if_neg (by decide +kernel)]
          rfl
        have sJp : Same J' (upd J' p o) := fun b u q => by rw [upd_ne (ne_of_none q g2)]; exact q
        refine k (upd J' p o) _ ⟨x, dx, l, .ref p, rfl, hx, hl, nlx, ?_, ?_, ?_, ?_, g4.rep g2, ⟨e.j.trans sJp, fun b u q => ?_, fun b u q => ?_, fun b u q => ?_⟩⟩
        · rw [upd_same, ep]
        · rw [upd_ne nlx]; exact hl'
        · rw [upd_ne (Ne.symm npx)]; exact jx'
        · rw [upd_ne (Ne.symm npl)]; exact jl'
        · rw [upd_ne (ne_of_none q hx)]
          exact e.h _ _ (sA _ _ q)
        · by_cases hb : b = p
          · subst hb
            rw [upd_same] at q
            rw [upd_ne npx, g3]
            exact q
          · rw [upd_ne hb] at q
            rw [upd_ne (ne_of_none q jx')]
            exact e.s _ _ q
        · by_cases hb : b = p
          · subst hb
            exact .inr (sA.free g1)
          · rw [upd_ne hb] at q
            rcases e.loc b u q with z | z
            · exact .inl z
            · exact .inr (sA.free z)
end
end H2
set_option Elab.async false
set_option linter.all false
set_option maxRecDepth 100000
set_option maxHeartbeats 4000000
/-! By hand: written, write. -/
namespace H2
open PySem PySem.Spec PyProof.Rows L2 Dl M W02 R2
def spWr (cW cB : Addr) : Sp := fun vs H Q _ => ∃ (J : Hp) (r : Rdr) (w : Nat) (tape : List Str) (z : Str), Same J H ∧ Reps J [rD r, sD tape, .str z] vs ∧ Good r w ∧ TapeIn w tape ∧ TextIn z ∧
  (kF r (tl z) tape < (tl z).length → ∀ v J' H', NewB J H J' H' cB (marksL r (tl z) tape) v → Q v H') ∧
  (¬ kF r (tl z) tape < (tl z).length → ∀ ts, Right r w tape (tl z) ts → ∀ v J' H', NewW J H J' H' cW ts (highL r (tl z) tape) v → Q v H')
section
variable {P : Program} {w : World} {K : PySem.W.Frag} {mg : Str → Option Value} {base : Heap}
theorem start_fr {J H : Hp} {N : List Str} {ds : List D} {σ : L2.St} : Fr J H J H (startE N ds) σ := ⟨.refl _, .refl _, fun _ _ q => .inl q, fun i d p q _ => by
  unfold startE at q
  rw [List.getElem?_append] at q
  split at q
  · rw [List.getElem?_map] at q
    obtain ⟨d, hd, e⟩ := Option.map_eq_some_iff.mp q
    cases e
  · rw [List.getElem?_replicate] at q
    split at q <;> cases q⟩
theorem NewB.back {J H J1 H1 J2 H2 : Hp} {C : Addr} {ms : List Int} {v : V} (n : NewB J1 H1 J2 H2 C ms v) (e : Ext J H J1 H1) : NewB J H J2 H2 C ms v := by
  obtain ⟨x, dx, p, h1, h2, h3, h4, h5, h6, h7, h8, h9⟩ := n.ex
  exact ⟨x, dx, p, h1, e.h.free h2, e.h.free h3, h4, h5, h6, h7, h8, e.trans h9⟩
theorem NewW.back {J H J1 H1 J2 H2 : Hp} {C : Addr} {ts : List Str} {hs : List (List Int)} {v : V} (n : NewW J1 H1 J2 H2 C ts hs v) (e : Ext J H J1 H1) : NewW J H J2 H2 C ts hs v := by
  obtain ⟨x, dx, p, hv, h1, h2, h3, h4, h5, h6, h7, h8, h9, h10⟩ := n.ex
  exact ⟨x, dx, p, hv, h1, e.h.free h2, e.h.free h3, h4, h5, h6, h7, h8, h9, e.trans h10⟩
theorem scWr : FnScope ["reader", "tape", "text", "marks", "heights"] ["reader", "tape", "text"] (defScope (top 45)) := ⟨rfl, rfl, rfl, by decide +kernel, rfl, by decide +kernel, by decide +kernel⟩
theorem ok_Wr (T : W02.Txt K mg) (c_marks_of : C8.Cal P w K mg base 4 "marks_of" (spD 3 f_marks_of) []) (c_heights_of : C8.Cal P w K mg base 4 "heights_of" (spD 3 f_heights_of) []) (c_tape_by : C8.Cal P w K mg base 4 "tape_by" (spD 4 f_tape_by) [])
    (mB : C8.Mak P w K mg base 1 "Barred" T.c_Barred (spBi T.c_Barred) []) (mW : C8.Mak P w K mg base 1 "Written" T.c_Written (spWi T.c_Written) []) {f : Addr} {fd : FuncData} (F : FunD K "written" "written" (defArgs (top 45)) (defBody (top 45)) (defScope (top 45)) [] [] f fd) :
    FnOk P w K mg base C8.CX0 5 f fd ["reader", "tape", "text"] (spWr T.c_Written T.c_Barred) := by
  refine F.ok scWr (fun vs H Q E h => ?_) (fun cdv A outer s H vs Q E hr h => ?_)
  · obtain ⟨J, r, w, tape, z, _, rs, _⟩ := h
    have := rs.len
    exact this.symm
  · obtain ⟨J, r, w', tape, z, sJ, rs, g, ht, hz, k1, k2⟩ := h
    refine ⟨_, PSs.nox (pss_cons (xs_set false (i := 3) scWr.nd rfl (Or.inl rfl) (xe_call c_marks_of hr (by decide) (by rfl) (xa_cons (xe_var 0) (xa_cons (xe_var 1) (xa_cons (xe_var 2) xa_nil)))))
      (pss_cons (ps_if (xt_lt (xe_idx (xe_var 3) (xe_neg xe_int)) (xe_len (by rfl) T.len (xa_cons (xe_var 2) xa_nil))) (pss_one (ps_ret (C8.pe_mk mB hr (by decide) (by rfl) (xa_cons (xe_var 3) xa_nil)))) pss_nil)
      (pss_cons (xs_set false (i := 4) scWr.nd rfl (Or.inl rfl) (xe_call c_heights_of hr (by decide) (by rfl) (xa_cons (xe_var 0) (xa_cons (xe_var 1) (xa_cons (xe_var 2) xa_nil)))))
      (pss_one (ps_ret (C8.pe_mk mW hr (by decide) (by rfl) (xa_cons (xe_call c_tape_by hr (by decide) (by rfl) (xa_cons (xe_var 0) (xa_cons (xe_var 1) (xa_cons (xe_var 2) (xa_cons (xe_var 4) xa_nil))))) (xa_cons (xe_var 4) xa_nil)))))))), ?_⟩
    refine ⟨J, H, J, _, { nx := fun ρ' => ρ' = [some (.im (rD r)), some (.im (sD tape)), some (.im (.str z)), some (.im (iD (marksL r (tl z) tape))), none], rt := fun _ => False }, start_ok sJ rs, start_fr, ?_, ⟨fun {ρ1 σ1 J1 H1} kk ff hh => ?_, fun _ _ h => h.elim, fun _ _ h => h.elim, fun _ _ h => h.elim⟩⟩
    · exact gv_call [rD r, sD tape, .str z] (gva_cons (fun Q q => q) (gva_cons (fun Q q => q) (gva_cons (fun Q q => q) gva_nil))) rfl (fun P q => ⟨r, w', tape, z, g, ht, hz, rfl, q⟩) _ rfl
    · subst hh
      have hzl : (tl z).length = z.length := Array.length_toList
      have hz2 := hz.2
      have e01 : Ext J H J1 H1 := ff.toExt kk.s
      refine ⟨J1, _, fun b => b = decide (kF r (tl z) tape < (tl z).length), kk, ?_, fun b hb J2 H2 e2 => ?_⟩
      · have hl : (marksL r (tl z) tape).getLast? = some (kF r (tl z) tape : Int) := by unfold marksL; rw [prefL_last]
        refine gv_test (gv_op (.im (.int (kF r (tl z) tape))) (.im (.int z.length)) (gv_ixL (.im (iD (marksL r (tl z) tape))) (i := -1) (fun Q q => q) rfl (fun Q q => q) (by rw [Dl.atI_last, List.getLast?_map, hl]; rfl)) (fun Q q => ⟨by omega, q⟩) fun Q q => q) _ ?_
        exact decide_eq_decide.mpr (by omega)
      · subst hb
        by_cases hk : kF r (tl z) tape < (tl z).length
        · rw [decide_eq_true hk]
          refine iteT ?_
          refine ⟨J2, _, fun rs => rs = [.im (iD (marksL r (tl z) tape))], kk.ext e2, rfl, fun rs hrs vs2 J3 H3 e3 rr => ?_⟩
          subst hrs
          have rr := rr.freeze e3 rfl
          obtain ⟨v, _, rfl, rv, r0⟩ := rr.uncons
          rw [r0.unnil]
          intro x dx hx hdx hne
          exact ⟨J3, H3, x, dx, _, v, rfl, hx, hdx, hne, rfl, e3.s, rv, fun J4 H4 nb => ⟨rfl, k1 hk _ J4 H4 (nb.back ((e01.trans e2).trans e3))⟩⟩
        · rw [decide_eq_false hk]
          refine iteF ?_
          have hsm : hF r (tl z) tape (tl z).length < 1000 := by
            have R := relH (t := tl z) g ht.1 ht.2 (tl z).length
            cases eg : gF r (tl z) tape (tl z).length with
            | none => exact absurd ((barred_iff tape).mpr eg) hk
            | some v =>
              have := R.1 v eg
              have := ht.2
              omega
          refine ⟨J, H, J2, _, { nx := fun ρ' => ρ' = [some (.im (rD r)), some (.im (sD tape)), some (.im (.str z)), some (.im (iD (marksL r (tl z) tape))), some (.im (iiD (highL r (tl z) tape)))], rt := fun _ => False }, kk.ext e2, ff.ext e2, ?_, ⟨fun {ρ4 σ4 J4 H4} k4 f4 h4 => ?_, fun _ _ h => h.elim, fun _ _ h => h.elim, fun _ _ h => h.elim⟩⟩
          · exact gv_call [rD r, sD tape, .str z] (gva_cons (fun Q q => q) (gva_cons (fun Q q => q) (gva_cons (fun Q q => q) gva_nil))) rfl (fun P q => ⟨r, w', tape, z, g, ht, hz, rfl, q⟩) _ rfl
          · subst h4
            have e04 : Ext J H J4 H4 := f4.toExt k4.s
            refine ⟨J4, _, fun rs => ∃ ts, Right r w' tape (tl z) ts ∧ rs = [.im (sD ts), .im (iiD (highL r (tl z) tape))], k4, ?_, fun rs hrs vs2 J5 H5 e5 rr => ?_⟩
            · exact call_all [rD r, sD tape, .str z, iiD (highL r (tl z) tape)] (gva_cons (fun Q q => q) (gva_cons (fun Q q => q) (gva_cons (fun Q q => q) (gva_cons (fun Q q => q) gva_nil)))) rfl ⟨r, w', tape, z, g, ht, hz, rfl, hsm, fun fs B => ⟨fs.reverse, Right.of B, rfl⟩⟩
            · obtain ⟨ts, R, rfl⟩ := hrs
              have rr := rr.freeze e5 rfl
              obtain ⟨v, _, rfl, rv, r0⟩ := rr.uncons
              obtain ⟨v2, _, rfl, rv2, r00⟩ := r0.uncons
              rw [r00.unnil]
              intro x dx hx hdx hne
              exact ⟨J5, H5, x, dx, ts, _, v, v2, rfl, hx, hdx, hne, rfl, e5.s, rv, rv2, by unfold highL; rw [prefL_len]; have := ht.2; omega, fun J6 H6 nw => ⟨rfl, k2 hk ts R _ J6 H6 (nw.back (e04.trans e5))⟩⟩
theorem scWt : FnScope ["reader", "tape", "text"] ["reader", "tape", "text"] (defScope (top 47)) := ⟨rfl, rfl, rfl, by decide +kernel, rfl, by decide +kernel, by decide +kernel⟩
theorem ok_Wt {cW cB : Addr} (c_check_all : C8.Cal P w K mg base 3 "check_all" (spD 3 f_check_all) []) (c_written : C8.Cal P w K mg base 5 "written" (spWr cW cB) []) {f : Addr} {fd : FuncData} (F : FunD K "write" "write" (defArgs (top 47)) (defBody (top 47)) (defScope (top 47)) [] [] f fd) :
    FnOk P w K mg base C8.CX0 6 f fd ["reader", "tape", "text"] (spWr cW cB) := by
  refine F.ok scWt (fun vs H Q E h => ?_) (fun cdv A outer s H vs Q E hr h => ?_)
  · obtain ⟨J, r, w, tape, z, _, rs, _⟩ := h
    have := rs.len
    exact this.symm
  · obtain ⟨J, r, w', tape, z, sJ, rs, g, ht, hz, k1, k2⟩ := h
    refine ⟨_, PSs.nox (pss_cons (xs_expr (xe_call c_check_all hr (by decide) (by rfl) (xa_cons (xe_var 0) (xa_cons (xe_var 1) (xa_cons (xe_var 2) xa_nil)))))
      (pss_one (ps_ret (C8.pe_c c_written hr (by decide) (by rfl) (xa_cons (xe_var 0) (xa_cons (xe_var 1) (xa_cons (xe_var 2) xa_nil))))))), ?_⟩
    refine ⟨J, H, J, _, { nx := fun ρ' => ρ' = [some (.im (rD r)), some (.im (sD tape)), some (.im (.str z))], rt := fun _ => False }, start_ok sJ rs, start_fr, ?_, ⟨fun {ρ1 σ1 J1 H1} kk ff hh => ?_, fun _ _ h => h.elim, fun _ _ h => h.elim, fun _ _ h => h.elim⟩⟩
    · exact gv_call (d := .non) [rD r, sD tape, .str z] (gva_cons (fun Q q => q) (gva_cons (fun Q q => q) (gva_cons (fun Q q => q) gva_nil))) rfl (fun P q => ⟨r, w', tape, z, g, ht, hz, rfl, q⟩) _ rfl
    · subst hh
      have e01 : Ext J H J1 H1 := ff.toExt kk.s
      refine ⟨J1, _, fun rs => rs = [.im (rD r), .im (sD tape), .im (.str z)], kk, rfl, fun rs hrs vs2 J3 H3 e3 rr => ?_⟩
      subst hrs
      have rr := rr.freeze e3 rfl
      rw [List.append_nil]
      exact ⟨J3, r, w', tape, z, e3.s, rr, g, ht, hz, fun hk v J4 H4 nb => k1 hk v J4 H4 (nb.back (e01.trans e3)), fun hk ts R v J4 H4 nw => k2 hk ts R v J4 H4 (nw.back (e01.trans e3))⟩
end
end H2
set_option Elab.async false
set_option linter.all false
set_option maxRecDepth 100000
set_option maxHeartbeats 4000000
/-! By hand: what is told, taken for good. -/
namespace H2
open PySem PySem.Spec PyProof.Rows L2 Dl M W02 R2
theorem ext_add {J H J' H' : Hp} {p : Addr} {o : HO} (e : Ext J H J' H') (hj : J' p = none) (hp : H' p = some o) (h0 : H p = none) : Ext J H (upd J' p o) H' := by
  have s1 : Same J' (upd J' p o) := fun b u q => by rw [upd_ne (ne_of_none q hj)]; exact q
  refine ⟨e.j.trans s1, e.h, fun b u q => ?_, fun b u q => ?_⟩
  · by_cases hb : b = p
    · subst hb; rw [upd_same] at q; rw [hp]; exact q
    · rw [upd_ne hb] at q; exact e.s _ _ q
  · by_cases hb : b = p
    · subst hb; exact .inr h0
    · rw [upd_ne hb] at q; exact e.loc _ _ q
theorem NewB.rep {J H J' H' : Hp} {C : Addr} {ms : List Int} {v : V} (n : NewB J H J' H' C ms v) : ∃ J2, Ext J H J2 H' ∧ Rep J2 (bD C ms) v := by
  obtain ⟨x, dx, p, rfl, h2, h3, h4, h5, h6, h7, h8, h9⟩ := n.ex
  have e1 := ext_add h9 h8 h6 h3
  have jx : upd J' p (.lst (ms.map V.int)) x = none := by rw [upd_ne (Ne.symm h4)]; exact h7
  refine ⟨_, ext_add e1 jx h5 h2, ?_⟩
  unfold bD
  simp only [Rep]
  refine ⟨x, dx, _, rfl, upd_same, rfl, .one ?_⟩
  unfold iD
  simp only [Rep]
  exact ⟨p, _, rfl, by rw [upd_ne h4, upd_same], Reps.of_ints⟩
theorem NewW.rep {J H J' H' : Hp} {C : Addr} {ts : List Str} {hs : List (List Int)} {v : V} (n : NewW J H J' H' C ts hs v) : ∃ J2, Ext J H J2 H' ∧ Rep J2 (wD C ts (iiD hs)) v := by
  obtain ⟨x, dx, p, hv, rfl, h2, h3, h4, h5, h6, h7, h8, h9, h10⟩ := n.ex
  have e1 := ext_add h10 h8 h6 h3
  have jx : upd J' p (.lst (ts.map V.str)) x = none := by rw [upd_ne (Ne.symm h4)]; exact h7
  refine ⟨_, ext_add e1 jx h5 h2, ?_⟩
  unfold wD
  simp only [Rep]
  refine ⟨x, dx, _, rfl, upd_same, rfl, .cons ?_ (.one (h9.mono fun b u q => ?_))⟩
  · unfold sD
    simp only [Rep]
    exact ⟨p, _, rfl, by rw [upd_ne h4, upd_same], Reps.of_strs⟩
  · rw [upd_ne (ne_of_none q h7), upd_ne (ne_of_none q h8)]
    exact q
theorem wr_imp {cW cB : Addr} : ∀ vs H Q E, spD 3 (f_write cW cB) vs H Q E → spWr cW cB vs H Q E := fun vs H Q E h => by
  obtain ⟨J, ds, P, s, r, l, ⟨r', w, tape, z, g, ht, hz, rfl, h1, h2⟩, k⟩ := h
  refine ⟨J, r', w, tape, z, s, r, g, ht, hz, fun hk v J' H' nb => ?_, fun hk ts R v J' H' nw => ?_⟩
  · obtain ⟨J2, e2, rr⟩ := nb.rep
    exact k _ (h1 hk) v J2 H' e2 rr
  · obtain ⟨J2, e2, rr⟩ := nw.rep
    exact k _ (h2 hk ts R) v J2 H' e2 rr
end H2
set_option Elab.async false
set_option linter.all false
set_option maxRecDepth 100000
set_option maxHeartbeats 4000000
/-! By hand: the law's look at what is told. -/
namespace H2
open PySem PySem.Spec PyProof.Rows L2 Dl M W02 R2
def dAlt (F G : DE) (ρ : Dl.Env) (P : R → Prop) : Prop := F ρ P ∨ G ρ P
theorem xe_alt {X : Cx} {e : Expr} {F G : DE} (a : XE X e F) (b : XE X e G) : XE X e (dAlt F G) := ⟨fun pins s σ H Q I h => by
  obtain ⟨J, ρ, P, k, h1, h2⟩ := h
  rcases h1 with h1 | h1
  · exact a.run pins s σ H Q I ⟨J, ρ, P, k, h1, h2⟩
  · exact b.run pins s σ H Q I ⟨J, ρ, P, k, h1, h2⟩⟩
theorem view_ok {J H J2 : Hp} {ρ : Dl.Env} {σ : L2.St} (k : Ok J H ρ σ) (i : Nat) {v : V} {d : D} (hv : σ[i]? = some (some v)) (e : Ext J H J2 H) (r : Rep J2 d v) : Ok J2 H (ρ.set i (some (.im d))) σ := by
  have h := (k.ext e).setIm i r
  have es : σ.set i (some v) = σ := by
    apply List.ext_getElem?
    intro j
    by_cases hj : i = j
    · subst hj
      rw [List.getElem?_set_self (List.getElem?_eq_some_iff.mp hv).1, hv]
    · rw [List.getElem?_set_ne hj]
  rw [es] at h
  exact h
end H2
set_option Elab.async false
set_option linter.all false
set_option maxRecDepth 100000
set_option maxHeartbeats 4000000
/-! By hand: tools for the last walk. -/
namespace H2
open PySem PySem.Spec PyProof.Rows L2 Dl M W02 R2
inductive Sl (J : Hp) : List (Option D) → L2.St → Prop where
  | nil : Sl J [] []
  | im {d : D} {v : V} {ds : List (Option D)} {vs : L2.St} : Rep J d v → Sl J ds vs → Sl J (some d :: ds) (some v :: vs)
  | no {o : Option V} {ds : List (Option D)} {vs : L2.St} : Sl J ds vs → Sl J (none :: ds) (o :: vs)
def envO (ds : List (Option D)) : Dl.Env := ds.map fun o => o.map L.im
theorem Sl.len {J : Hp} : ∀ {ds : List (Option D)} {σ : L2.St}, Sl J ds σ → (envO ds).length = σ.length
  | _, _, .nil => rfl
  | _, _, .im _ t => congrArg (· + 1) (Sl.len t)
  | _, _, .no t => congrArg (· + 1) (Sl.len t)
theorem Sl.get {J : Hp} : ∀ {ds : List (Option D)} {σ : L2.St}, Sl J ds σ → ∀ (i : Nat) (d : D), (envO ds)[i]? = some (some (.im d)) → ∃ v, σ[i]? = some (some v) ∧ Rep J d v
  | _, _, .nil, i, d, h => by cases h
  | _, _, .im (v := v) r t, 0, d, h => by
    cases h
    exact ⟨v, rfl, r⟩
  | _, _, .im r t, i + 1, d, h => Sl.get t i d h
  | _, _, .no t, 0, d, h => by cases h
  | _, _, .no t, i + 1, d, h => Sl.get t i d h
theorem Sl.nomu (ds : List (Option D)) (i : Nat) (d : D) (h : (envO ds)[i]? = some (some (.mu d))) : False := by
  unfold envO at h
  rw [List.getElem?_map] at h
  obtain ⟨o, _, e⟩ := Option.map_eq_some_iff.mp h
  cases o <;> cases e
theorem Sl.ok {J H : Hp} {ds : List (Option D)} {σ : L2.St} (h : Sl J ds σ) (s : Same J H) : Ok J H (envO ds) σ :=
  ⟨s, h.len, h.get, fun i d e => (Sl.nomu ds i d e).elim, fun i j d e p h1 _ _ _ => (Sl.nomu ds i d h1).elim⟩
theorem up_gv {F : DE} {J H : Hp} {ds : List (Option D)} {σ : L2.St} {Q : VK} (r : R) (s : Same J H) (h : Sl J ds σ) (hF : Gv F (envO ds) r) (k : ∀ v J' H', Ext J H J' H' → RepR J H J' H' r v → Q v H') : up F σ H Q :=
  ⟨J, _, fun x => x = r, h.ok s, hF _ rfl, fun x e v J' H' ex rr => by subst e; exact k v J' H' ex rr⟩
theorem upT_gv {F : DT} {J H : Hp} {ds : List (Option D)} {σ : L2.St} {Q : Bool → Hp → Prop} (b : Bool) (s : Same J H) (h : Sl J ds σ) (hF : GvT F (envO ds) b) (k : ∀ J' H', Ext J H J' H' → Q b H') : upT F σ H Q :=
  ⟨J, _, fun x => x = b, h.ok s, hF _ rfl, fun x e J' H' ex => by subst e; exact k J' H' ex⟩
theorem upA_gv {F : DA} {J H : Hp} {ds : List (Option D)} {σ : L2.St} {Q : List V → Hp → Prop} (es : List D) (s : Same J H) (h : Sl J ds σ) (hF : GvA F (envO ds) (es.map R.im)) (k : ∀ vs J' H', Ext J H J' H' → Reps J' es vs → Q vs H') : upA F σ H Q :=
  ⟨J, _, fun x => x = es.map R.im, h.ok s, hF _ rfl, fun x e v J' H' ex rr => by
    subst e
    have q := rr.freeze ex (all_im es)
    rw [map_im] at q
    exact k v J' H' ex q⟩
/-- what stands: two dicts of one content, two lists of one content -/
def Jb (a a2 b b2 : Addr) (kvs : List (Key × V)) (tv : List V) : Hp := fun q => if q = a ∨ q = a2 then some (.dK kvs) else if q = b ∨ q = b2 then some (.lst tv) else none
structure Bs (H : Hp) (a a2 b b2 : Addr) (kvs : List (Key × V)) (tv : List V) : Prop where
  a : H a = some (.dK kvs)
  a2 : H a2 = some (.dK kvs)
  b : H b = some (.lst tv)
  b2 : H b2 = some (.lst tv)
section
variable {H H' Hf J : Hp} {a a2 b b2 : Addr} {kvs : List (Key × V)} {tv : List V}
theorem Jb_at {q : Addr} {o : HO} (h : Jb a a2 b b2 kvs tv q = some o) : ((q = a ∨ q = a2) ∧ o = .dK kvs) ∨ ((q = b ∨ q = b2) ∧ o = .lst tv) := by
  unfold Jb at h
  split at h
  · rename_i e; cases h; exact .inl ⟨e, rfl⟩
  · split at h
    · rename_i e; cases h; exact .inr ⟨e, rfl⟩
    · cases h
theorem Bs.same (B : Bs H a a2 b b2 kvs tv) : Same (Jb a a2 b b2 kvs tv) H := fun q o h => by
  rcases Jb_at h with ⟨rfl | rfl, rfl⟩ | ⟨rfl | rfl, rfl⟩
  · exact B.a
  · exact B.a2
  · exact B.b
  · exact B.b2
theorem Bs.ja : Jb a a2 b b2 kvs tv a = some (.dK kvs) := by
  unfold Jb; rw [if_pos (.inl rfl)]
theorem Bs.ja2 : Jb a a2 b b2 kvs tv a2 = some (.dK kvs) := by
  unfold Jb; rw [if_pos (.inr rfl)]
theorem Bs.jb (B : Bs H a a2 b b2 kvs tv) : Jb a a2 b b2 kvs tv b = some (.lst tv) := by
  have n1 : ¬ (b = a ∨ b = a2) := fun z => by
    rcases z with z | z
    · have := B.a; rw [← z, B.b] at this; cases this
    · have := B.a2; rw [← z, B.b] at this; cases this
  unfold Jb; rw [if_neg n1, if_pos (.inl rfl)]
theorem Bs.jb2 (B : Bs H a a2 b b2 kvs tv) : Jb a a2 b b2 kvs tv b2 = some (.lst tv) := by
  have n1 : ¬ (b2 = a ∨ b2 = a2) := fun z => by
    rcases z with z | z
    · have := B.a; rw [← z, B.b2] at this; cases this
    · have := B.a2; rw [← z, B.b2] at this; cases this
  unfold Jb; rw [if_neg n1, if_pos (.inr rfl)]
theorem Bs.mono (B : Bs H a a2 b b2 kvs tv) (s : Same H H') : Bs H' a a2 b b2 kvs tv := ⟨s _ _ B.a, s _ _ B.a2, s _ _ B.b, s _ _ B.b2⟩
theorem Bs.upd (B : Bs H a a2 b b2 kvs tv) (B0 : Bs Hf a a2 b b2 kvs tv) {p : Addr} {o : HO} (hp : Hf p = none) : Bs (upd H p o) a a2 b b2 kvs tv :=
  ⟨by rw [upd_ne (ne_of_none B0.a hp)]; exact B.a, by rw [upd_ne (ne_of_none B0.a2 hp)]; exact B.a2, by rw [upd_ne (ne_of_none B0.b hp)]; exact B.b, by rw [upd_ne (ne_of_none B0.b2 hp)]; exact B.b2⟩
/-- what is fresh is not of the base -/
theorem Bs.out (B : Bs H a a2 b b2 kvs tv) {p : Addr} (hp : H p = none) : Jb a a2 b b2 kvs tv p = none := B.same.free hp
theorem same_add {p : Addr} {o : HO} (s : Same J H) (hp : H p = some o) : Same (upd J p o) H := fun b u q => by
  by_cases hb : b = p
  · subst hb; rw [upd_same] at q; rw [hp]; exact q
  · rw [upd_ne hb] at q; exact s _ _ q
theorem same_up {p : Addr} {o : HO} (hj : J p = none) : Same J (upd J p o) := fun b u q => by rw [upd_ne (ne_of_none q hj)]; exact q
/-- a change of what was not there at first -/
theorem same_chg {p : Addr} {o : HO} (s : Same H H') (hp : H p = none) : Same H (upd H' p o) := fun b u q => by rw [upd_ne (ne_of_none q hp)]; exact s _ _ q
end
theorem rep_opt {J J' : Hp} {o : Option Int} {v : V} (h : Rep J (optD o) v) : Rep J' (optD o) v := by
  cases o with
  | none => unfold optD at h ⊢; simp only [Rep] at h ⊢; exact h
  | some i => unfold optD at h ⊢; simp only [Rep] at h ⊢; exact h
theorem rep_rD {J : Hp} {r : Rdr} {a : Addr} {kvs : List (Key × V)} (hj : J a = some (.dK kvs)) (hk : kvs.map (·.1) = ksR r) (hv : kvs.map (·.2) = r.map fun p => V.str p.2) : Rep J (rD r) (.ref a) := by
  unfold rD
  simp only [Rep]
  refine ⟨a, kvs, rfl, hj, hk, ?_⟩
  rw [hv]
  have := Reps.of_strs (J := J) (ns := r.map (·.2))
  rw [List.map_map, List.map_map] at this
  exact this
theorem rep_sDo {J : Hp} {l : List Str} {b : Addr} (hj : J b = some (.lst (l.map V.str))) : Rep J (sD l) (.ref b) := by
  unfold sD
  simp only [Rep]
  exact ⟨b, _, rfl, hj, Reps.of_strs⟩
theorem rep_iDo {J : Hp} {l : List Int} {b : Addr} (hj : J b = some (.lst (l.map V.int))) : Rep J (iD l) (.ref b) := by
  unfold iD
  simp only [Rep]
  exact ⟨b, _, rfl, hj, Reps.of_ints⟩
theorem rd_vals {J : Hp} {r : Rdr} {vs : List V} (h : Reps J (dsR r) vs) : vs = r.map fun p => V.str p.2 := by
  have e : dsR r = (r.map (·.2)).map D.str := by
    unfold dsR
    rw [List.map_map]
    rfl
  rw [e] at h
  rw [h.strs, List.map_map]
  rfl
theorem rep_rDx {J : Hp} {r : Rdr} {v : V} (h : Rep J (rD r) v) : ∃ a kvs, v = .ref a ∧ J a = some (.dK kvs) ∧ kvs.map (·.1) = ksR r ∧ kvs.map (·.2) = r.map fun p => V.str p.2 := by
  unfold rD at h
  simp only [Rep] at h
  obtain ⟨a, kvs, h1, h2, h3, h4⟩ := h
  exact ⟨a, kvs, h1, h2, h3, rd_vals h4⟩
/-- a Barred as it stands -/
theorem rep_bar {J : Hp} {C x dx p : Addr} {ms : List Int} (hx : J x = some (.ins C dx [("marks", .ref p)])) (hp : J p = some (.lst (ms.map V.int))) : Rep J (bD C ms) (.ref x) := by
  unfold bD
  simp only [Rep]
  exact ⟨x, dx, _, rfl, hx, rfl, .one (rep_iDo hp)⟩
theorem rep_wri {J : Hp} {C x dx p : Addr} {ts : List Str} {hd : D} {hv : V} (hx : J x = some (.ins C dx [("tape", .ref p), ("heights", hv)])) (hp : J p = some (.lst (ts.map V.str))) (hh : Rep J hd hv) : Rep J (wD C ts hd) (.ref x) := by
  unfold wD
  simp only [Rep]
  exact ⟨x, dx, _, rfl, hx, rfl, .cons (rep_sDo hp) (.one hh)⟩
section
variable {F G : DE} {A : DA} {ρ : Dl.Env} {r : R}
theorem gv_altL (h : Gv F ρ r) : Gv (dAlt F G) ρ r := fun Q q => .inl (h Q q)
theorem gv_altR (h : Gv G ρ r) : Gv (dAlt F G) ρ r := fun Q q => .inr (h Q q)
theorem gv_meth {C : Addr} {m : Str} {n : Nat} {f : DF} {ns : List Str} {fs es : List D} {d : D} (h : Gv F ρ (.im (.ins C ns fs))) (hm : ns.contains m = false) (ha : GvA A ρ (es.map R.im)) (hn : es.length + 1 = n) (hf : ∀ P : D → Prop, P d → f (.ins C ns fs :: es) P) : Gv (dMeth C m n f F A) ρ (.im d) := fun Q q => h _ ⟨rfl, hm, ha _ ⟨all_im es, by rw [List.length_map]; exact hn, by rw [map_im]; exact hf _ q⟩⟩
theorem gv_notB {a b : Bool} (h1 : Gv F ρ (.im (.bl a))) (h2 : Gv G ρ (.im (.bl b))) : Gv (dOp oNotB F G) ρ (.im (.bl (!(a == b)))) := gv_op _ _ h1 h2 fun Q q => q
theorem gv_fld {K : PySem.W.Frag} {C : Addr} {f : Str} {ns : List Str} {ds : List D} {d : D} (h : Gv F ρ (.im (.ins C ns ds))) (hc : Cls K C) (hn : NoAttr K C f) (hg : getDs ns ds f = some d) : Gv (dFld K f F) ρ (.im d) := fun Q q => h _ (by
  show _ ∧ _ ∧ _
  refine ⟨hc, hn, ?_⟩
  rw [hg]
  exact q)
end
theorem py_sD (l : List Str) : pyD (sD l) = some (.list (l.map PyData.str)) := by
  unfold sD
  unfold pyD
  have : ∀ l : List Str, pysD (l.map D.str) = some (l.map PyData.str) := by
    intro l
    induction l with
    | nil => rfl
    | cons x l ih =>
      rw [List.map_cons]
      unfold pysD
      rw [ih]
      rfl
  rw [this]
  rfl
theorem py_blD (l : List Bool) : pyD (.lst (l.map D.bl)) = some (.list (l.map PyData.bool)) := by
  unfold pyD
  have : ∀ l : List Bool, pysD (l.map D.bl) = some (l.map PyData.bool) := by
    intro l
    induction l with
    | nil => rfl
    | cons x l ih =>
      rw [List.map_cons]
      unfold pysD
      rw [ih]
      rfl
  rw [this]
  rfl
end H2
set_option Elab.async false
set_option linter.all false
set_option maxRecDepth 100000
set_option maxHeartbeats 4000000
/-! By hand: the law's look at what is told (printed by gen02f.py). -/
namespace H2
open PySem PySem.Spec PyProof.Rows L2 Dl M W02 R2
theorem strOk_row : ∀ w, w < 5 → ∀ x ∈ rowsS w, PyData.strOk x = true := by decide +kernel
theorem canLayAll_strs : ∀ l : List Str, (∀ x ∈ l, PyData.strOk x = true) → PyData.canLayAll0 (l.map PyData.str) = true
  | [], _ => by simp [PyData.canLayAll0]
  | x :: l, h => by
    simp only [List.map_cons, PyData.canLayAll0, PyData.canLay0, Bool.and_eq_true]
    exact ⟨h x (List.mem_cons_self ..), canLayAll_strs l fun y hy => h y (List.mem_cons_of_mem _ hy)⟩
theorem depthAll_strs : ∀ l : List Str, PyData.depthAll (l.map PyData.str) ≤ 1
  | [] => by simp [PyData.depthAll]
  | _ :: l => by
    have := depthAll_strs l
    simp only [List.map_cons, PyData.depthAll, PyData.depth]
    omega
theorem shaped_strs (l : List Str) (h : ∀ x ∈ l, PyData.strOk x = true) : SeqAt.shaped (.list (l.map PyData.str)) = true := by
  have h1 := depthAll_strs l
  have h2 : PyData.depth (.list (l.map PyData.str)) ≤ 64 := by simp only [PyData.depth]; omega
  show (PyData.canLay0 (.list (l.map PyData.str)) && decide (PyData.depth (.list (l.map PyData.str)) ≤ 64)) = true
  rw [Bool.and_eq_true]
  exact ⟨by simp only [PyData.canLay0]; exact canLayAll_strs l h, decide_eq_true h2⟩
theorem gv_neD {F G : DE} {ρ : Dl.Env} {p : PyData} (r s : R) (h1 : Gv F ρ r) (h2 : Gv G ρ s) (hr : pyD r.d = some p) (hs : pyD s.d = some p) (hsh : SeqAt.shaped p = true) : Gv (dOp oNeD F G) ρ (.im (.bl false)) := gv_op r s h1 h2 fun Q q => ⟨p, p, true, hr, hs, hsh, hsh, SeqAt.eqv_refl p (SeqAt.canLay_of_shaped hsh), q⟩
theorem xt_isN {X : Cx} {a b : Expr} {F G : DE} {pos : Pos} (ha : XE X a F) (hb : XE X b G) : XT X (.Compare a [.Is] [b] pos) (dTest (dOp oIsN F G)) := xt_cmp op_isN (fun J H x y v w P Q s cx cy h k => by
  unfold oIsN at h
  split at h
  · rename_i e
    refine ⟨cy.non e, ?_⟩
    rw [cx.isNon]
    exact k _ h _ J H (.refl s) ri_bl
  · exact h.elim) ha hb (nomark _)
theorem gv_list {F : DE} {ρ : Dl.Env} {ds : List D} (h : Gv F ρ (.im (.lst ds))) : Gv (dCB (call1 fList) (dCons F dNil)) ρ (.nw (.lst ds)) := fun Q q => h _ q
theorem gv_lc {F E : DE} {g : DG} {T : DT} {vs : List Nat} {ρ : Dl.Env} {ds : List D} {r : R} (h : Gv F ρ (.im (.lst ds))) (k : ∀ Q : R → Prop, Q r → (ds.length ≤ 100000 ∧ lcRun g T E (wipeE ρ vs) ds [] fun out => Q (.nw (.lst out)))) : Gv (dLc (dIL F) g T E vs) ρ r := fun Q q => h _ (k Q q)
abbrev dt : Str := "."
theorem nod_ks {r : Rdr} {w : Nat} (g : Good r w) : (ksR r).Nodup := by
  have h := g.nd
  unfold ksR
  unfold List.Nodup at h ⊢
  rw [List.pairwise_map] at h ⊢
  exact h.imp fun hab e => hab (Sum.inr.inj e)
theorem flat_ds (r : Rdr) : (dsR r).all flatS = true := by
  unfold dsR
  rw [List.all_map]
  exact List.all_eq_true.mpr fun _ _ => rfl
theorem all_true {α : Type} (l : List α) (Q : R → Prop) (q : Q (.im (.bl true))) : fAll (.nw (.lst (l.map fun _ => D.bl true))) Q := by
  show match blsD (l.map fun _ => D.bl true) with | some ns => Q (.im (.bl (ns.all id))) | none => False
  rw [blsD_map (fun _ => true) l]
  have e : ((l.map fun _ => true).all id) = true := by rw [List.all_map]; exact List.all_eq_true.mpr fun _ _ => rfl
  show Q (.im (.bl ((l.map fun _ => true).all id)))
  rw [e]
  exact q
theorem ob_sD {J : Hp} {o : HO} {l : List Str} (h : Ob J o (sD l)) : o = .lst (l.map V.str) := by
  unfold sD at h
  cases o <;> first | exact h.elim | (rename_i vs; have h : Reps J (l.map D.str) vs := h; rw [h.strs])
theorem ob_iD {J : Hp} {o : HO} {l : List Int} (h : Ob J o (iD l)) : o = .lst (l.map V.int) := by
  unfold iD at h
  cases o <;> first | exact h.elim | (rename_i vs; have h : Reps J (l.map D.int) vs := h; rw [h.ints])
theorem ob_rD {J : Hp} {o : HO} {r : Rdr} (h : Ob J o (rD r)) : ∃ kvs, o = .dK kvs ∧ kvs.map (·.1) = ksR r ∧ kvs.map (·.2) = r.map fun p => V.str p.2 := by
  unfold rD at h
  cases o <;> first | exact h.elim | (rename_i kvs; have h : kvs.map (·.1) = ksR r ∧ Reps J (dsR r) (kvs.map (·.2)) := h; exact ⟨kvs, rfl, h.1, rd_vals h.2⟩)
section
variable {P : Program} {w : World} {K : PySem.W.Frag} {mg : Str → Option Value} {base : Heap}
theorem scR : FnScope ["_law_reader_here", "_law_tape_here", "_law_text_here", "_law_handed", "_law_given", "_law_told", "_law_due", "_law_marks", "_law_again", "_law_found", "_law_high", "_law_row", "_law_mark", "_law_one"] ["_law_reader_here", "_law_tape_here", "_law_text_here"] (defScope (top 69)) := ⟨rfl, rfl, rfl, by decide +kernel, rfl, by decide +kernel, by decide +kernel⟩
theorem ok_R (T : W02.Txt K mg) (hcW : Cls K T.c_Written) (hcB : Cls K T.c_Barred) (hnm : NoAttr K T.c_Barred "marks") (hnt : NoAttr K T.c_Written "tape") (hnh : NoAttr K T.c_Written "heights")
    (c_write : C8.Cal P w K mg base 6 "write" (spWr T.c_Written T.c_Barred) []) (c_fewest : C8.Cal P w K mg base 3 "_law_fewest" (spD 3 f__law_fewest) [])
    (c_kW : C8.Cal P w K mg base 1 "_law_kinds" (spD 1 (f__law_kinds T.c_Written true false)) []) (c_kB : C8.Cal P w K mg base 1 "_law_kinds" (spD 1 (f__law_kinds T.c_Barred false true)) [])
    (mW : C8.Met P w K mg base 4 T.c_Written "shows" (spD 4 (f_Written_shows T.c_Written)) []) (mB : C8.Met P w K mg base 4 T.c_Barred "shows" (spD 4 (f_Barred_shows T.c_Barred)) [])
    (c_whole : C8.Cal P w K mg base 1 "_law_whole" (spD 1 f__law_whole) []) (c_marks : C8.Cal P w K mg base 3 "_law_are_marks" (spD 4 f__law_are_marks) []) (c_can : C8.Cal P w K mg base 2 "_law_can" (spD 2 f__law_can) [])
    (c_reads : C8.Cal P w K mg base 2 "_law_reads" (spD 2 f__law_reads) []) (c_holes : C8.Cal P w K mg base 1 "_law_holes" (spD 1 f__law_holes) []) (c_heights : C8.Cal P w K mg base 3 "_law_are_heights" (spD 4 f__law_are_heights) [])
    {f : Addr} {fd : FuncData} (F : FunD K "_law_write_right" "_law_write_right" (defArgs (top 69)) (defBody (top 69)) (defScope (top 69)) [] [] f fd) :
    FnOk P w K mg base C8.CX0 10 f fd ["_law_reader_here", "_law_tape_here", "_law_text_here"] (spD 3 f__law_write_right) := by
  have c_writeD : C8.Cal P w K mg base 6 "write" (spD 3 (f_write T.c_Written T.c_Barred)) [] := by
    obtain ⟨a, fd, ps, ds, h1, h2⟩ := c_write.ex
    exact ⟨a, fd, ps, ds, h1.imp wr_imp, h2⟩
  refine F.ok scR (fun vs H Q E h => spD_len h) (fun cdv A outer s H vs Q E hr h => ?_)
  obtain ⟨J, ds, P', sJ, rs, _, ⟨r, w', tape, z, g, ht, hz, rfl, hP⟩, hQ⟩ := h
  have fin : ∀ H', Same H H' → Q (.bl true) H' := fun H' s' => hQ _ hP _ J H' (Ext.grow sJ s') rp_bl
  clear hQ hP
  obtain ⟨v0, _, rfl, r0, rs⟩ := rs.uncons
  obtain ⟨v1, _, rfl, r1, rs⟩ := rs.uncons
  obtain ⟨v2, _, rfl, r2, rs⟩ := rs.uncons
  rw [rs.unnil]
  obtain ⟨a, kvs, rfl, ja, ek, ev⟩ := rep_rDx r0
  obtain ⟨b, rfl, jb⟩ := rep_sD r1
  have e2 : v2 = .str z := by simp only [Rep] at r2; exact r2
  subst e2
  have hw : w' < 5 := by have := g.w4; omega
  have htl := ht.2
  have hzl := hz.2
  have hzt : (tl z).length = z.length := Array.length_toList
  have hsok : ∀ x ∈ tape, PyData.strOk x = true := fun x hx => strOk_row w' hw x (ht.1 x hx)
  refine ⟨_, PSs.nox (pss_cons (ps_par (i := 3) (j := 4) rfl scR.nd rfl rfl (by decide) rfl rfl (pa_cons (xe_list (by rfl) (by rfl) T.list_ (xa_cons (xe_var 1) xa_nil)) (pa_cons (xe_dict (by rfl) T.dict_ (xa_cons (xe_var 0) xa_nil)) pa_nil)) rfl)
      (pss_cons (ps_par (i := 5) (j := 6) rfl scR.nd rfl rfl (by decide) rfl rfl (pa_cons (C8.pe_c c_write hr (by decide) (by rfl) (xa_cons (xe_var 4) (xa_cons (xe_var 3) (xa_cons (xe_var 2) xa_nil)))) (pa_cons (xe_call c_fewest hr (by decide) (by rfl) (xa_cons (xe_var 0) (xa_cons (xe_var 1) (xa_cons (xe_var 2) xa_nil)))) pa_nil)) rfl)
      (pss_cons (ps_if (xt_w (xw_or (xt_neD (Room.u64 hr) (xe_alt (xe_call c_kW hr (by decide) (by rfl) (xa_cons (xe_var 5) xa_nil)) (xe_call c_kB hr (by decide) (by rfl) (xa_cons (xe_var 5) xa_nil))) (xe_cat (xe_lst (xa_cons (xe_notN (xe_var 6) xe_non) (xa_cons (xe_isN (xe_var 6) xe_non) xa_nil))) (xe_rep (xe_lst (xa_cons xe_bl xa_nil)) xe_int))) (xw_or (xt_neD (Room.u64 hr) (xe_var 3) (xe_var 1)) (xw_or1 (xt_neSame (Room.u0 hr) (xe_var 4) (xe_var 0)))))) (pss_one (ps_ret pe_bl)) pss_nil)
      (pss_cons (ps_if (xt_notB (xe_alt (xe_meth mW hr (by decide) (xe_var 5) (xa_cons (xe_var 4) (xa_cons (xe_var 3) (xa_cons (xe_var 2) xa_nil)))) (xe_meth mB hr (by decide) (xe_var 5) (xa_cons (xe_var 4) (xa_cons (xe_var 3) (xa_cons (xe_var 2) xa_nil))))) xe_bl) (pss_one (ps_ret pe_bl)) pss_nil)
      (pss_cons (ps_if (xt_isN (xe_var 6) xe_non) (pss_cons (ps_set (i := 7) scR.nd rfl (by first | exact Or.inl rfl | exact Or.inr rfl) (xe_list (by rfl) (by rfl) T.list_ (xa_cons (xe_fld (xe_var 5)) xa_nil)))
      (pss_cons (ps_expr (pe_bm PySem.F.plainAttrs_list PySem.F.slot_list_append PySem.F.type_list_append mt_append (pe_fld (pv 5) rfl) (pa_cons pe_int pa_nil)) rfl)
      (pss_cons (ps_if (xt_w (xw_or (xt_notB (xe_alt (xe_meth mW hr (by decide) (xe_var 5) (xa_cons (xe_var 4) (xa_cons (xe_var 3) (xa_cons (xe_var 2) xa_nil)))) (xe_meth mB hr (by decide) (xe_var 5) (xa_cons (xe_var 4) (xa_cons (xe_var 3) (xa_cons (xe_var 2) xa_nil))))) xe_bl) (xw_or1 (xt_not (xt_val (xe_all (by rfl) (by rfl) T.all (xa_cons (xe_lc rfl scR.nd (xi_list (xe_var 7)) (blkOk_by (own := [("_law_mark", 12)]) (by kernel_rfl)) (by decide) (fun _ _ _ _ _ => (xg_st false (i := 12) scR.nd rfl (by first | exact Or.inl rfl | exact Or.inr rfl))) (fun _ _ _ _ _ => xts_nil) (fun _ _ _ _ _ => (xe_call c_whole hr (by decide) (by rfl) (xa_cons (xe_var 12) xa_nil)))) xa_nil))))))) (pss_one (ps_ret pe_bl)) pss_nil)
      (pss_cons (ps_set (i := 8) scR.nd rfl (by first | exact Or.inl rfl | exact Or.inr rfl) (xe_fld (xe_call c_writeD hr (by decide) (by rfl) (xa_cons (xe_var 4) (xa_cons (xe_var 3) (xa_cons (xe_var 2) xa_nil))))))
      (pss_one (ps_ret (xe_and (xe_call c_marks hr (by decide) (by rfl) (xa_cons (xe_var 0) (xa_cons (xe_var 1) (xa_cons (xe_var 2) (xa_cons (xe_var 7) xa_nil))))) (xe_one (xe_call c_marks hr (by decide) (by rfl) (xa_cons (xe_var 0) (xa_cons (xe_var 1) (xa_cons (xe_var 2) (xa_cons (xe_var 8) xa_nil))))))))))))) pss_nil)
      (pss_cons (ps_par (i := 9) (j := 10) rfl scR.nd rfl rfl (by decide) rfl rfl (pa_cons (xe_list (by rfl) (by rfl) T.list_ (xa_cons (xe_fld (xe_var 5)) xa_nil)) (pa_cons (xe_lc rfl scR.nd (xi_list (xe_fld (xe_var 5))) (blkOk_by (own := [("_law_row", 11)]) (by kernel_rfl)) (by decide) (fun _ _ _ _ _ => (xg_st false (i := 11) scR.nd rfl (by first | exact Or.inl rfl | exact Or.inr rfl))) (fun _ _ _ _ _ => xts_nil) (fun _ _ _ _ _ => (xe_list (by rfl) (by rfl) T.list_ (xa_cons (xe_var 11) xa_nil)))) pa_nil)) rfl)
      (pss_cons (ps_if (xt_w (xw_or (xt_not (xt_val (xe_call c_can hr (by decide) (by rfl) (xa_cons (xe_var 1) (xa_cons (xe_var 9) xa_nil))))) (xw_or (xt_ne (xe_call c_reads hr (by decide) (by rfl) (xa_cons (xe_var 0) (xa_cons (xe_var 9) xa_nil))) (xe_var 2)) (xw_or1 (xt_ne (xe_sub (xe_call c_holes hr (by decide) (by rfl) (xa_cons (xe_var 9) xa_nil)) (xe_call c_holes hr (by decide) (by rfl) (xa_cons (xe_var 1) xa_nil))) (xe_var 6)))))) (pss_one (ps_ret pe_bl)) pss_nil)
      (pss_cons (ps_if (xt_w (xw_or (xt_not (xt_val (xe_call c_heights hr (by decide) (by rfl) (xa_cons (xe_var 0) (xa_cons (xe_var 1) (xa_cons (xe_var 2) (xa_cons (xe_var 10) xa_nil))))))) (xw_or1 (xt_ne (xe_idx (xe_idx (xe_var 10) (xe_neg xe_int)) (xe_neg xe_int)) (xe_var 6))))) (pss_one (ps_ret pe_bl)) pss_nil)
      (pss_cons (ps_if (xt_not (xt_val (xe_all (by rfl) (by rfl) T.all (xa_cons (xe_lc rfl scR.nd (xi_list (xe_var 10)) (blkOk_by (own := [("_law_row", 11)]) (by kernel_rfl)) (by decide) (fun _ _ _ _ _ => (xg_st false (i := 11) scR.nd rfl (by first | exact Or.inl rfl | exact Or.inr rfl))) (fun _ _ _ _ _ => xts_nil) (fun _ _ _ _ _ => (xe_all (by rfl) (by rfl) T.all (xa_cons (xe_lc rfl scR.nd (xi_list (xe_var 11)) (blkOk_by (own := [("_law_one", 13)]) (by kernel_rfl)) (by decide) (fun _ _ _ _ _ => (xg_st false (i := 13) scR.nd rfl (by first | exact Or.inl rfl | exact Or.inr rfl))) (fun _ _ _ _ _ => xts_nil) (fun _ _ _ _ _ => (xe_call c_whole hr (by decide) (by rfl) (xa_cons (xe_var 13) xa_nil)))) xa_nil)))) xa_nil)))) (pss_one (ps_ret pe_bl)) pss_nil)
      (pss_cons (ps_expr (pe_bm PySem.F.plainAttrs_list PySem.F.slot_list_append PySem.F.type_list_append mt_append (pe_fld (pv 5) rfl) (pa_cons pe_str pa_nil)) rfl)
      (pss_cons (ps_asg pe_int (pg_sub (pe_ix ix_seq (pe_fld (pv 5) rfl) pe_int (by exact fun _ _ => rfl)) pe_int set_list) rfl rfl rfl)
      (pss_cons (ps_if (xt_notB (xe_alt (xe_meth mW hr (by decide) (xe_var 5) (xa_cons (xe_var 4) (xa_cons (xe_var 3) (xa_cons (xe_var 2) xa_nil)))) (xe_meth mB hr (by decide) (xe_var 5) (xa_cons (xe_var 4) (xa_cons (xe_var 3) (xa_cons (xe_var 2) xa_nil))))) xe_bl) (pss_one (ps_ret pe_bl)) pss_nil)
      (pss_cons (ps_set (i := 8) scR.nd rfl (by first | exact Or.inl rfl | exact Or.inr rfl) (xe_call c_writeD hr (by decide) (by rfl) (xa_cons (xe_var 4) (xa_cons (xe_var 3) (xa_cons (xe_var 2) xa_nil)))))
      (pss_one (ps_ret (xe_and (xe_eq (xe_sub (xe_call c_holes hr (by decide) (by rfl) (xa_cons (xe_fld (xe_var 8)) xa_nil)) (xe_call c_holes hr (by decide) (by rfl) (xa_cons (xe_var 1) xa_nil))) (xe_var 6)) (xe_one (xe_call c_heights hr (by decide) (by rfl) (xa_cons (xe_var 0) (xa_cons (xe_var 1) (xa_cons (xe_var 2) (xa_cons (xe_fld (xe_var 8)) xa_nil)))))))))))))))))))))), ?_⟩
  -- the first pair
  refine up_gv (.nw (sD tape)) sJ (.im r0 (.im r1 (.im r2 (.no (.no (.no (.no (.no (.no (.no (.no (.no (.no (.no .nil)))))))))))))) (fun Q q => q) fun v3 J1 H1 e1 q3 => ?_
  refine up_gv (.nw (rD r)) e1.s (.im (r0.mono e1.j) (.im (r1.mono e1.j) (.im rp_str (.no (.no (.no (.no (.no (.no (.no (.no (.no (.no (.no .nil)))))))))))))) (fun Q q => q) fun v4 J2 H2 e2 q4 => ?_
  refine ⟨v3, v4, rfl, ?_⟩
  obtain ⟨b2, o3, rfl, nb2, _, h3, ob3⟩ := q3
  obtain ⟨a2, o4, rfl, na2, _, h4, ob4⟩ := q4
  rw [ob_sD ob3] at h3
  obtain ⟨kvs2, eo4, ek2, ev2⟩ := ob_rD ob4
  rw [eo4, Dl.pairs_ext (ek2.trans ek.symm) (ev2.trans ev.symm)] at h4
  have B2 : Bs H2 a a2 b b2 kvs (tape.map V.str) := ⟨e2.h _ _ (e1.h _ _ (sJ _ _ ja)), h4, e2.h _ _ (e1.h _ _ (sJ _ _ jb)), e2.h _ _ h3⟩
  have s02 : Same H H2 := e1.h.trans e2.h
  have bR : ∀ {J'}, Same (Jb a a2 b b2 kvs (tape.map V.str)) J' → Rep J' (rD r) (.ref a) := fun s => (rep_rD Bs.ja ek ev).mono s
  have bR2 : ∀ {J'}, Same (Jb a a2 b b2 kvs (tape.map V.str)) J' → Rep J' (rD r) (.ref a2) := fun s => (rep_rD Bs.ja2 ek ev).mono s
  have bT : ∀ {J'}, Same (Jb a a2 b b2 kvs (tape.map V.str)) J' → Rep J' (sD tape) (.ref b) := fun s => (rep_sDo B2.jb).mono s
  have bT2 : ∀ {J'}, Same (Jb a a2 b b2 kvs (tape.map V.str)) J' → Rep J' (sD tape) (.ref b2) := fun s => (rep_sDo B2.jb2).mono s
  have sR : Same (Jb a a2 b b2 kvs (tape.map V.str)) (Jb a a2 b b2 kvs (tape.map V.str)) := .refl _
  -- write
  refine upA_gv [rD r, sD tape, .str z] B2.same (.im (bR sR) (.im (bT sR) (.im rp_str (.im (bT2 sR) (.im (bR2 sR) (.no (.no (.no (.no (.no (.no (.no (.no (.no .nil)))))))))))))) (gva_cons (fun Q q => q) (gva_cons (fun Q q => q) (gva_cons (fun Q q => q) gva_nil))) fun vs' J3 H3 e3 q => ?_
  rw [List.append_nil]
  refine ⟨J3, r, w', tape, z, e3.s, q, g, ht, hz, fun hk v5 J4 H4 nb => ?_, fun hk ts R v5 J4 H4 nw => ?_⟩
  · have eg : gF r (tl z) tape (tl z).length = none := (barred_iff tape).mp hk
    have hml : (marksL r (tl z) tape).length ≤ 31 := by unfold marksL; rw [prefL_len]; omega
    have hml2 : (marksL r (tl z) tape).length = tape.length + 1 := by unfold marksL; rw [prefL_len]
    obtain ⟨x, dx, p, rfl, hx0, hp0, hpx, hx, hp, jx, jp, e4⟩ := (nb.back e3).ex
    have B4 := B2.mono e4.h
    refine up_gv (.im (optD (gF r (tl z) tape (tl z).length))) B4.same (.im (bR sR) (.im (bT sR) (.im rp_str (.im (bT2 sR) (.im (bR2 sR) (.no (.no (.no (.no (.no (.no (.no (.no (.no .nil)))))))))))))) (gv_call [rD r, sD tape, .str z] (gva_cons (fun Q q => q) (gva_cons (fun Q q => q) (gva_cons (fun Q q => q) gva_nil))) rfl (fun P q => ⟨r, w', tape, z, g, ht, hz, rfl, q⟩)) fun v6 J5 H5 e5 q6 => ?_
    rw [eg] at q6
    have e6 : v6 = .non := by have q6 : Rep J5 .non v6 := q6; simp only [Rep] at q6; exact q6
    subst e6
    refine ⟨_, _, rfl, ?_⟩
    have B5 := B4.mono e5.h
    have hx5 := e5.h _ _ hx
    have hp5 := e5.h _ _ hp
    have jp0 : Jb a a2 b b2 kvs (tape.map V.str) p = none := B2.out hp0
    have jx0 : upd (Jb a a2 b b2 kvs (tape.map V.str)) p (.lst ((marksL r (tl z) tape).map V.int)) x = none := by rw [upd_ne (Ne.symm hpx)]; exact B2.out hx0
    have s6 : Same (Jb a a2 b b2 kvs (tape.map V.str)) (upd (upd (Jb a a2 b b2 kvs (tape.map V.str)) p (.lst ((marksL r (tl z) tape).map V.int))) x (.ins T.c_Barred dx [("marks", .ref p)])) := (same_up jp0).trans (same_up jx0)
    have rb : Rep (upd (upd (Jb a a2 b b2 kvs (tape.map V.str)) p (.lst ((marksL r (tl z) tape).map V.int))) x (.ins T.c_Barred dx [("marks", .ref p)])) (bD T.c_Barred (marksL r (tl z) tape)) (.ref x) := rep_bar upd_same (by rw [upd_ne hpx, upd_same])
    have sJ5 := same_add (same_add B5.same hp5) hx5
    -- the kinds
    refine upT_gv false sJ5 (.im (bR s6) (.im (bT s6) (.im rp_str (.im (bT2 s6) (.im (bR2 s6) (.im rb (.im rp_non (.no (.no (.no (.no (.no (.no (.no .nil)))))))))))))) (gv_orT (a := false) (gv_test ?_) fun _ => gv_orT (a := false) (gv_test ?_) fun _ => gv_test ?_) fun J6 H6 e6 => iteF ?_
    · refine gv_neD (.im (.lst ((kindsOf false true).map D.bl))) (.nw (.lst ((kindsOf false true).map D.bl))) (gv_altR (gv_call [bD T.c_Barred (marksL r (tl z) tape)] (gva_cons (fun Q q => q) gva_nil) rfl (fun P q => ⟨_, _, rfl, q⟩))) ?_ (py_blD _) (py_blD _) (by decide +kernel)
      refine gv_op (.nw (.lst [.bl false, .bl true])) (.nw (.lst [.bl false, .bl false, .bl false, .bl false, .bl false])) (gv_lst [.bl false, .bl true] (gva_cons (fun Q q => q) (gva_cons (fun Q q => q) gva_nil)) (by simp)) ?_ (fun Q q => ⟨by show 2 + 5 ≤ 100000; decide, q⟩)
      exact gv_op (.nw (.lst [.bl false])) (.im (.int 5)) (gv_lst [.bl false] (gva_cons (fun Q q => q) gva_nil) (by simp)) (fun Q q => q) (fun Q q => ⟨by decide, by decide, by decide, q⟩)
    · exact gv_neD (.im (sD tape)) (.im (sD tape)) (fun Q q => q) (fun Q q => q) (py_sD _) (py_sD _) (shaped_strs _ hsok)
    · exact gv_op (.im (rD r)) (.im (rD r)) (fun Q q => q) (fun Q q => q) (fun Q q => ⟨rfl, rfl, nod_ks g, flat_ds r, q⟩)
    -- its own word
    refine upT_gv false e6.s (.im (bR (s6.trans e6.j)) (.im (bT (s6.trans e6.j)) (.im rp_str (.im (bT2 (s6.trans e6.j)) (.im (bR2 (s6.trans e6.j)) (.im (rb.mono e6.j) (.im rp_non (.no (.no (.no (.no (.no (.no (.no .nil)))))))))))))) (gv_test (gv_notB (a := true) (b := true) (gv_altR (gv_meth (es := [rD r, sD tape, .str z]) (fun Q q => q) (by decide +kernel) (gva_cons (fun Q q => q) (gva_cons (fun Q q => q) (gva_cons (fun Q q => q) gva_nil))) rfl (fun P q => ⟨r, w', tape, z, g, ht, hz, .inl ⟨hk, rfl, q⟩⟩))) (fun Q q => q))) fun J7 H7 e7 => iteF ?_
    refine upT_gv true e7.s (.im (bR ((s6.trans e6.j).trans e7.j)) (.im (bT ((s6.trans e6.j).trans e7.j)) (.im rp_str (.im (bT2 ((s6.trans e6.j).trans e7.j)) (.im (bR2 ((s6.trans e6.j).trans e7.j)) (.im ((rb.mono e6.j).mono e7.j) (.im rp_non (.no (.no (.no (.no (.no (.no (.no .nil)))))))))))))) (gv_test (fun Q q => q)) fun J8 H8 e8 => iteT ?_
    have s8 := ((s6.trans e6.j).trans e7.j).trans e8.j
    have rb8 := ((rb.mono e6.j).mono e7.j).mono e8.j
    -- marks = list(told.marks)
    refine up_gv (.nw (iD (marksL r (tl z) tape))) e8.s (.im (bR s8) (.im (bT s8) (.im rp_str (.im (bT2 s8) (.im (bR2 s8) (.im rb8 (.im rp_non (.no (.no (.no (.no (.no (.no (.no .nil)))))))))))))) (gv_list (gv_fld (ns := ["marks"]) (ds := [iD (marksL r (tl z) tape)]) (fun Q q => q) hcB hnm rfl)) fun v7 J9 H9 e9 q7 => ?_
    obtain ⟨p7, o7, rfl, np7, _, h7, ob7⟩ := q7
    rw [ob_iD ob7] at h7
    have s59 : Same H5 H9 := ((e6.h.trans e7.h).trans e8.h).trans e9.h
    have hx9 := s59 _ _ hx5
    have hp9 := s59 _ _ hp5
    have B9 := B5.mono s59
    have s29 : Same H2 H9 := (e4.h.trans e5.h).trans s59
    have hp8 := ((e6.h.trans e7.h).trans e8.h) _ _ hp5
    have hx8 := ((e6.h.trans e7.h).trans e8.h) _ _ hx5
    have n7p : p ≠ p7 := ne_of_none hp8 np7
    have n7x : x ≠ p7 := ne_of_none hx8 np7
    have hp70 : H2 p7 = none := ((e4.h.trans e5.h).trans ((e6.h.trans e7.h).trans e8.h)).free np7
    -- told.marks.append(0)
    refine ⟨_, rfl, x, T.c_Barred, dx, [("marks", .ref p)], .ref p, rfl, hx9, hcB, hnm, rfl, .inl ⟨rfl, _, SqL.of hp9⟩, ?_⟩
    refine ⟨p, _, .int 0, rfl, rfl, hp9, line_lt (by rw [List.length_map]; omega), ?_⟩
    have em : (marksL r (tl z) tape).map V.int ++ [V.int 0] = (marksL r (tl z) tape ++ [0]).map V.int := by rw [List.map_append]; rfl
    rw [em]
    have BA := B9.upd (o := .lst ((marksL r (tl z) tape ++ [0]).map V.int)) B2 hp0
    have hxA : upd H9 p (.lst ((marksL r (tl z) tape ++ [0]).map V.int)) x = some (.ins T.c_Barred dx [("marks", .ref p)]) := by rw [upd_ne (Ne.symm hpx)]; exact hx9
    have hpA : upd H9 p (.lst ((marksL r (tl z) tape ++ [0]).map V.int)) p = some (.lst ((marksL r (tl z) tape ++ [0]).map V.int)) := upd_same
    have h7A : upd H9 p (.lst ((marksL r (tl z) tape ++ [0]).map V.int)) p7 = some (.lst ((marksL r (tl z) tape).map V.int)) := by rw [upd_ne (Ne.symm n7p)]; exact h7
    have s2A : Same H (upd H9 p (.lst ((marksL r (tl z) tape ++ [0]).map V.int))) := same_chg (s02.trans s29) (s02.free hp0)
    generalize upd H9 p (.lst ((marksL r (tl z) tape ++ [0]).map V.int)) = HA at BA hxA hpA h7A s2A
    have jx1 : upd (Jb a a2 b b2 kvs (tape.map V.str)) p (.lst ((marksL r (tl z) tape ++ [0]).map V.int)) x = none := by rw [upd_ne (Ne.symm hpx)]; exact B2.out hx0
    have j71 : upd (upd (Jb a a2 b b2 kvs (tape.map V.str)) p (.lst ((marksL r (tl z) tape ++ [0]).map V.int))) x (.ins T.c_Barred dx [("marks", .ref p)]) p7 = none := by rw [upd_ne (Ne.symm n7x), upd_ne (Ne.symm n7p)]; exact B2.out hp70
    have sA : Same (Jb a a2 b b2 kvs (tape.map V.str)) (upd (upd (upd (Jb a a2 b b2 kvs (tape.map V.str)) p (.lst ((marksL r (tl z) tape ++ [0]).map V.int))) x (.ins T.c_Barred dx [("marks", .ref p)])) p7 (.lst ((marksL r (tl z) tape).map V.int))) := ((same_up jp0).trans (same_up jx1)).trans (same_up j71)
    have rbA : Rep (upd (upd (upd (Jb a a2 b b2 kvs (tape.map V.str)) p (.lst ((marksL r (tl z) tape ++ [0]).map V.int))) x (.ins T.c_Barred dx [("marks", .ref p)])) p7 (.lst ((marksL r (tl z) tape).map V.int))) (bD T.c_Barred (marksL r (tl z) tape ++ [0])) (.ref x) := rep_bar (by rw [upd_ne n7x, upd_same]) (by rw [upd_ne n7p, upd_ne hpx, upd_same])
    have rmA : Rep (upd (upd (upd (Jb a a2 b b2 kvs (tape.map V.str)) p (.lst ((marksL r (tl z) tape ++ [0]).map V.int))) x (.ins T.c_Barred dx [("marks", .ref p)])) p7 (.lst ((marksL r (tl z) tape).map V.int))) (iD (marksL r (tl z) tape)) (.ref p7) := rep_iDo upd_same
    have sJA := same_add (same_add (same_add BA.same hpA) hxA) h7A
    generalize upd (upd (upd (Jb a a2 b b2 kvs (tape.map V.str)) p (.lst ((marksL r (tl z) tape ++ [0]).map V.int))) x (.ins T.c_Barred dx [("marks", .ref p)])) p7 (.lst ((marksL r (tl z) tape).map V.int)) = JA at sA rbA rmA sJA
    -- its own word is False now; all marks are whole
    refine upT_gv false sJA (.im (bR sA) (.im (bT sA) (.im rp_str (.im (bT2 sA) (.im (bR2 sA) (.im rbA (.im rp_non (.im rmA (.no (.no (.no (.no (.no (.no .nil)))))))))))))) (gv_orT (a := false) (gv_test (gv_notB (a := false) (b := false) (gv_altR (gv_meth (es := [rD r, sD tape, .str z]) (fun Q q => q) (by decide +kernel) (gva_cons (fun Q q => q) (gva_cons (fun Q q => q) (gva_cons (fun Q q => q) gva_nil))) rfl (fun P q => ⟨r, w', tape, z, g, ht, hz, .inr ⟨_, by rw [List.length_append]; show (marksL r (tl z) tape).length + 1 ≠ _; omega, rfl, q⟩⟩))) (fun Q q => q))) fun _ => gv_notT (a := true) (gv_test ?_)) fun JB HB eB => iteF ?_
    · intro Q' q'
      show _ ∧ _
      refine ⟨by rw [List.length_map]; omega, ?_⟩
      exact lc_map' D.int (fun _ => D.bl true) _ _ _ (fun _ _ N h => h) (fun l hl Y hY => ⟨rfl, rfl, l, rfl, hY⟩) (all_true _ _ q')
    -- again
    refine up_gv (.im (iD (marksL r (tl z) tape))) eB.s (.im (bR (sA.trans eB.j)) (.im (bT (sA.trans eB.j)) (.im rp_str (.im (bT2 (sA.trans eB.j)) (.im (bR2 (sA.trans eB.j)) (.im (rbA.mono eB.j) (.im rp_non (.im (rmA.mono eB.j) (.no (.no (.no (.no (.no (.no .nil)))))))))))))) (gv_fld (ns := ["marks"]) (ds := [iD (marksL r (tl z) tape)]) (gv_call [rD r, sD tape, .str z] (gva_cons (fun Q q => q) (gva_cons (fun Q q => q) (gva_cons (fun Q q => q) gva_nil))) rfl (fun P q => ⟨r, w', tape, z, g, ht, hz, rfl, fun _ => q, fun h => absurd hk h⟩)) hcB hnm rfl) fun v8 JC HC eC q8 => ?_
    refine up_gv (.im (.bl true)) eC.s (.im (bR ((sA.trans eB.j).trans eC.j)) (.im (bT ((sA.trans eB.j).trans eC.j)) (.im rp_str (.im (bT2 ((sA.trans eB.j).trans eC.j)) (.im (bR2 ((sA.trans eB.j).trans eC.j)) (.im ((rbA.mono eB.j).mono eC.j) (.im rp_non (.im ((rmA.mono eB.j).mono eC.j) (.im q8 (.no (.no (.no (.no (.no .nil)))))))))))))) (gv_and (a := true) (b := true) (gv_call [rD r, sD tape, .str z, iD (marksL r (tl z) tape)] (gva_cons (fun Q q => q) (gva_cons (fun Q q => q) (gva_cons (fun Q q => q) (gva_cons (fun Q q => q) gva_nil)))) rfl (fun P q => ⟨r, w', tape, z, g, ht, hz, hk, rfl, q⟩)) fun _ => gv_call [rD r, sD tape, .str z, iD (marksL r (tl z) tape)] (gva_cons (fun Q q => q) (gva_cons (fun Q q => q) (gva_cons (fun Q q => q) (gva_cons (fun Q q => q) gva_nil)))) rfl (fun P q => ⟨r, w', tape, z, g, ht, hz, hk, rfl, q⟩)) fun v9 JD HD eD q9 => ?_
    have e9' : v9 = .bl true := by have q9 : Rep JD (.bl true) v9 := q9; simp only [Rep] at q9; exact q9
    subst e9'
    exact fin HD (((s2A.trans eB.h).trans eC.h).trans eD.h)
  · obtain ⟨v, eg⟩ : ∃ v, gF r (tl z) tape (tl z).length = some v := by
      cases e : gF r (tl z) tape (tl z).length with
      | none => exact absurd ((barred_iff tape).mpr e) hk
      | some v => exact ⟨v, rfl⟩
    have eh : hF r (tl z) tape (tl z).length = v := ((relH (t := tl z) g ht.1 ht.2 (tl z).length).1 v eg).1
    have edue : holesT ts - holesT tape = v := by rw [holes_tape hw tape ts R.len.symm ht.1 R.ins, R.sum, eh]
    have rowlen : ∀ x ∈ rowsS w', x.length ≤ 1000 := fun x hx => by rw [(rows_isRow w' hw x hx).2]; omega
    have htsl : ts.length ≤ 1000 := by rw [R.len]; omega
    have hhl : (highL r (tl z) tape).length = tape.length + 1 := by unfold highL; rw [prefL_len]
    have hll : ∀ l ∈ highL r (tl z) tape, l.length ≤ 31 := fun l hl => by
      unfold highL prefL at hl
      obtain ⟨i, _, rfl⟩ := List.mem_map.mp hl
      rw [lineF_len]
      omega
    have elast : (List.map iD (highL r (tl z) tape)).getLast? = some (iD (lineF (tl z).length (hF r (tl z) tape))) := by
      unfold highL
      rw [List.getLast?_map, prefL_last]
      rfl
    have elast2 : (List.map D.int (lineF (tl z).length (hF r (tl z) tape))).getLast? = some (D.int v) := by
      rw [List.getLast?_eq_getElem?, List.length_map, lineF_len, Nat.add_sub_cancel, List.getElem?_map, lineF_get (Nat.le_refl _), eh]
      rfl
    obtain ⟨x, dx, p, hv, rfl, hx0, hp0, hpx, hx, hp, jx, jp, rh, e4⟩ := (nw.back e3).ex
    have B4 := B2.mono e4.h
    refine up_gv (.im (optD (gF r (tl z) tape (tl z).length))) B4.same (.im (bR sR) (.im (bT sR) (.im rp_str (.im (bT2 sR) (.im (bR2 sR) (.no (.no (.no (.no (.no (.no (.no (.no (.no .nil)))))))))))))) (gv_call [rD r, sD tape, .str z] (gva_cons (fun Q q => q) (gva_cons (fun Q q => q) (gva_cons (fun Q q => q) gva_nil))) rfl (fun P q => ⟨r, w', tape, z, g, ht, hz, rfl, q⟩)) fun v6 J5 H5 e5 q6 => ?_
    rw [eg] at q6
    have e6 : v6 = .int v := by have q6 : Rep J5 (.int v) v6 := q6; simp only [Rep] at q6; exact q6
    subst e6
    refine ⟨_, _, rfl, ?_⟩
    -- what the heights are
    obtain ⟨ph, ws, rfl, jph, rws⟩ : ∃ ph ws, hv = .ref ph ∧ J4 ph = some (.lst ws) ∧ Reps J4 ((highL r (tl z) tape).map iD) ws := by
      have rh' := rh
      unfold iiD at rh'
      simp only [Rep] at rh'
      exact rh'
    have ew0 : ((highL r (tl z) tape).map iD)[0]? = some (iD (lineF (tl z).length (hF r (tl z) (tape.take 0)))) := by
      unfold highL
      rw [List.getElem?_map, prefL_get _ _ (Nat.zero_le _)]
      rfl
    obtain ⟨w0, hw0, rw0⟩ := rws.get ew0
    obtain ⟨q0, rfl, jq0⟩ := rep_iD rw0
    have h0len : ((lineF (tl z).length (hF r (tl z) (tape.take 0))).map V.int).length = (tl z).length + 1 := by rw [List.length_map, lineF_len]
    have h00 : ((lineF (tl z).length (hF r (tl z) (tape.take 0))).map V.int)[0]? = some (.int (hF r (tl z) (tape.take 0) 0)) := by
      rw [List.getElem?_map, lineF_get (Nat.zero_le _)]
      rfl
    generalize (lineF (tl z).length (hF r (tl z) (tape.take 0))).map V.int = h0 at jq0 h0len h00
    have hq0 : H2 q0 = none := by
      rcases e4.loc q0 _ jq0 with z' | z'
      · exfalso
        rcases Jb_at z' with ⟨_, z'⟩ | ⟨_, z'⟩
        · cases z'
        · have e : h0 = tape.map V.str := by injection z'
          rw [e, List.getElem?_map] at h00
          cases tape with
          | nil => cases h00
          | cons a l => cases h00
      · exact z'
    have nq0p : q0 ≠ p := ne_of_none jq0 jp
    have nq0x : q0 ≠ x := ne_of_none jq0 jx
    have nphp : ph ≠ p := ne_of_none jph jp
    have nphx : ph ≠ x := ne_of_none jph jx
    have B5 := B4.mono e5.h
    have hx5 := e5.h _ _ hx
    have hp5 := e5.h _ _ hp
    have jx1 : upd J4 p (.lst (ts.map V.str)) x = none := by rw [upd_ne (Ne.symm hpx)]; exact jx
    have s46 : Same J4 (upd (upd J4 p (.lst (ts.map V.str))) x (.ins T.c_Written dx [("tape", .ref p), ("heights", .ref ph)])) := (same_up jp).trans (same_up jx1)
    have rb : Rep (upd (upd J4 p (.lst (ts.map V.str))) x (.ins T.c_Written dx [("tape", .ref p), ("heights", .ref ph)])) (wD T.c_Written ts (iiD (highL r (tl z) tape))) (.ref x) := rep_wri upd_same (by rw [upd_ne hpx, upd_same]) (rh.mono s46)
    have sJ5 := same_add (same_add (e4.s.trans e5.h) hp5) hx5
    have s6 := e4.j.trans s46
    generalize upd (upd J4 p (.lst (ts.map V.str))) x (.ins T.c_Written dx [("tape", .ref p), ("heights", .ref ph)]) = J5' at s6 rb sJ5
    -- the kinds
    refine upT_gv false sJ5 (.im (bR s6) (.im (bT s6) (.im rp_str (.im (bT2 s6) (.im (bR2 s6) (.im rb (.im rp_int (.no (.no (.no (.no (.no (.no (.no .nil)))))))))))))) (gv_orT (a := false) (gv_test ?_) fun _ => gv_orT (a := false) (gv_test ?_) fun _ => gv_test ?_) fun J6 H6 e6 => iteF ?_
    · refine gv_neD (.im (.lst ((kindsOf true false).map D.bl))) (.nw (.lst ((kindsOf true false).map D.bl))) (gv_altL (gv_call [wD T.c_Written ts (iiD (highL r (tl z) tape))] (gva_cons (fun Q q => q) gva_nil) rfl (fun P q => ⟨_, _, rfl, q⟩))) ?_ (py_blD _) (py_blD _) (by decide +kernel)
      refine gv_op (.nw (.lst [.bl true, .bl false])) (.nw (.lst [.bl false, .bl false, .bl false, .bl false, .bl false])) (gv_lst [.bl true, .bl false] (gva_cons (fun Q q => q) (gva_cons (fun Q q => q) gva_nil)) (by simp)) ?_ (fun Q q => ⟨by show 2 + 5 ≤ 100000; decide, q⟩)
      exact gv_op (.nw (.lst [.bl false])) (.im (.int 5)) (gv_lst [.bl false] (gva_cons (fun Q q => q) gva_nil) (by simp)) (fun Q q => q) (fun Q q => ⟨by decide, by decide, by decide, q⟩)
    · exact gv_neD (.im (sD tape)) (.im (sD tape)) (fun Q q => q) (fun Q q => q) (py_sD _) (py_sD _) (shaped_strs _ hsok)
    · exact gv_op (.im (rD r)) (.im (rD r)) (fun Q q => q) (fun Q q => q) (fun Q q => ⟨rfl, rfl, nod_ks g, flat_ds r, q⟩)
    -- its own word
    refine upT_gv false e6.s (.im (bR (s6.trans e6.j)) (.im (bT (s6.trans e6.j)) (.im rp_str (.im (bT2 (s6.trans e6.j)) (.im (bR2 (s6.trans e6.j)) (.im (rb.mono e6.j) (.im rp_int (.no (.no (.no (.no (.no (.no (.no .nil)))))))))))))) (gv_test (gv_notB (a := true) (b := true) (gv_altL (gv_meth (es := [rD r, sD tape, .str z]) (fun Q q => q) (by decide +kernel) (gva_cons (fun Q q => q) (gva_cons (fun Q q => q) (gva_cons (fun Q q => q) gva_nil))) rfl (fun P q => ⟨r, w', tape, z, g, ht, hz, .inl ⟨ts, R, rfl, q⟩⟩))) (fun Q q => q))) fun J7 H7 e7 => iteF ?_
    refine upT_gv false e7.s (.im (bR ((s6.trans e6.j).trans e7.j)) (.im (bT ((s6.trans e6.j).trans e7.j)) (.im rp_str (.im (bT2 ((s6.trans e6.j).trans e7.j)) (.im (bR2 ((s6.trans e6.j).trans e7.j)) (.im ((rb.mono e6.j).mono e7.j) (.im rp_int (.no (.no (.no (.no (.no (.no (.no .nil)))))))))))))) (gv_test (fun Q q => q)) fun J8 H8 e8 => iteF ?_
    have s8 := ((s6.trans e6.j).trans e7.j).trans e8.j
    have rb8 := ((rb.mono e6.j).mono e7.j).mono e8.j
    -- found, high
    refine up_gv (.nw (sD ts)) e8.s (.im (bR s8) (.im (bT s8) (.im rp_str (.im (bT2 s8) (.im (bR2 s8) (.im rb8 (.im rp_int (.no (.no (.no (.no (.no (.no (.no .nil)))))))))))))) (gv_list (gv_fld (ns := ["tape", "heights"]) (ds := [sD ts, iiD (highL r (tl z) tape)]) (fun Q q => q) hcW hnt rfl)) fun v9 J9 H9 e9 q9 => ?_
    refine up_gv (.nw (iiD (highL r (tl z) tape))) e9.s (.im (bR (s8.trans e9.j)) (.im (bT (s8.trans e9.j)) (.im rp_str (.im (bT2 (s8.trans e9.j)) (.im (bR2 (s8.trans e9.j)) (.im (rb8.mono e9.j) (.im rp_int (.no (.no (.no (.no (.no (.no (.no .nil)))))))))))))) (gv_lc (gv_fld (ns := ["tape", "heights"]) (ds := [sD ts, iiD (highL r (tl z) tape)]) (fun Q q => q) hcW hnh rfl) (fun Q' q' => ?_)) fun v10 JA HA eA q10 => ?_
    · refine ⟨by rw [List.length_map]; omega, ?_⟩
      exact lc_map' iD iD (highL r (tl z) tape) _ _ (fun _ _ N h => h) (fun l hl Y hY => hY) q'
    refine ⟨_, _, rfl, ?_⟩
    obtain ⟨p9, o9, rfl, np9, j9, h9, ob9⟩ := q9
    rw [ob_sD ob9] at h9
    obtain ⟨JB, eB, sAB, r10⟩ := RepR.freeze (d := .non) eA.s q10 eA rfl
    have r10 : Rep JB (iiD (highL r (tl z) tape)) v10 := r10
    have jB9 : JB p9 = none := eB.out j9 h9
    have h9A := eB.h _ _ h9
    have s59 : Same H5 H9 := ((e6.h.trans e7.h).trans e8.h).trans e9.h
    have s5A : Same H5 HA := s59.trans eB.h
    have sC0 : Same (Jb a a2 b b2 kvs (tape.map V.str)) (upd JB p9 (.lst (ts.map V.str))) := ((s8.trans e9.j).trans eB.j).trans (same_up jB9)
    have rbC : Rep (upd JB p9 (.lst (ts.map V.str))) (sD ts) (.ref p9) := rep_sDo upd_same
    have r10C : Rep (upd JB p9 (.lst (ts.map V.str))) (iiD (highL r (tl z) tape)) v10 := r10.mono (same_up jB9)
    have sJC : Same (upd JB p9 (.lst (ts.map V.str))) HA := same_add eB.s h9A
    generalize upd JB p9 (.lst (ts.map V.str)) = JC at sC0 rbC r10C sJC
    -- what was found
    refine upT_gv false sJC (.im (bR sC0) (.im (bT sC0) (.im rp_str (.im (bT2 sC0) (.im (bR2 sC0) (.no (.im rp_int (.no (.no (.im rbC (.im r10C (.no (.no (.no .nil)))))))))))))) (gv_orT (a := false) (gv_notT (a := true) (gv_test ?_)) fun _ => gv_orT (a := false) (gv_test ?_) fun _ => gv_test ?_) fun JD HD eD => iteF ?_
    · exact gv_call [sD tape, sD ts] (gva_cons (fun Q q => q) (gva_cons (fun Q q => q) gva_nil)) rfl (fun P q => ⟨tape, ts, by omega, fun x hx => rowlen x (ht.1 x hx), fun x hx => rowlen x (R.ins x hx), rfl, by rw [can_ovr hw tape ts ht.1 R.ins, R.ovr]; exact q⟩)
    · refine gv_op (.im (.str z)) (.im (.str z)) (gv_call [rD r, sD ts] (gva_cons (fun Q q => q) (gva_cons (fun Q q => q) gva_nil)) rfl (fun P q => ⟨r, w', ts, g, htsl, rfl, by rw [R.reads]; exact q⟩)) (fun Q q => q) (fun Q q => ?_)
      show Q (.im (.bl (!(z == z))))
      rw [beq_self_eq_true]
      exact q
    · refine gv_op (.im (.int (holesT ts - holesT tape))) (.im (.int v)) (gv_sub (gv_call [sD ts] (gva_cons (fun Q q => q) gva_nil) rfl (fun P q => ⟨ts, htsl, fun x hx => rowlen x (R.ins x hx), rfl, q⟩)) (gv_call [sD tape] (gva_cons (fun Q q => q) gva_nil) rfl (fun P q => ⟨tape, by omega, fun x hx => rowlen x (ht.1 x hx), rfl, q⟩))) (fun Q q => q) (fun Q q => ?_)
      show Q (.im (.bl (!((holesT ts - holesT tape) == v))))
      rw [edue, beq_self_eq_true]
      exact q
    -- the heights
    refine upT_gv false eD.s (.im (bR (sC0.trans eD.j)) (.im (bT (sC0.trans eD.j)) (.im rp_str (.im (bT2 (sC0.trans eD.j)) (.im (bR2 (sC0.trans eD.j)) (.no (.im rp_int (.no (.no (.im (rbC.mono eD.j) (.im (r10C.mono eD.j) (.no (.no (.no .nil)))))))))))))) (gv_orT (a := false) (gv_notT (a := true) (gv_test ?_)) fun _ => gv_test ?_) fun JE HE eE => iteF ?_
    · exact gv_call [rD r, sD tape, .str z, iiD (highL r (tl z) tape)] (gva_cons (fun Q q => q) (gva_cons (fun Q q => q) (gva_cons (fun Q q => q) (gva_cons (fun Q q => q) gva_nil)))) rfl (fun P q => ⟨r, w', tape, z, g, ht, hz, rfl, q⟩)
    · refine gv_op (.im (.int v)) (.im (.int v)) (gv_ixL (.im (iD (lineF (tl z).length (hF r (tl z) tape)))) (i := -1) (gv_ixL (.im (iiD (highL r (tl z) tape))) (i := -1) (fun Q q => q) rfl (fun Q q => q) (by rw [Dl.atI_last]; exact elast)) rfl (fun Q q => q) (by rw [Dl.atI_last]; exact elast2)) (fun Q q => q) (fun Q q => ?_)
      show Q (.im (.bl (!(v == v))))
      rw [beq_self_eq_true]
      exact q
    -- all are whole
    refine upT_gv false eE.s (.im (bR ((sC0.trans eD.j).trans eE.j)) (.im (bT ((sC0.trans eD.j).trans eE.j)) (.im rp_str (.im (bT2 ((sC0.trans eD.j).trans eE.j)) (.im (bR2 ((sC0.trans eD.j).trans eE.j)) (.no (.im rp_int (.no (.no (.im ((rbC.mono eD.j).mono eE.j) (.im ((r10C.mono eD.j).mono eE.j) (.no (.no (.no .nil)))))))))))))) (gv_notT (a := true) (gv_test ?_)) fun JF HF eF => iteF ?_
    · intro Q' q'
      show _ ∧ _
      refine ⟨by rw [List.length_map]; omega, ?_⟩
      refine lc_map' iD (fun _ => D.bl true) _ _ _ (fun _ _ N h => h) (fun l hl Y hY => ?_) (all_true _ _ q')
      show _ ∧ _
      refine ⟨by rw [List.length_map]; have := hll l hl; omega, ?_⟩
      exact lc_map' D.int (fun _ => D.bl true) _ _ _ (fun _ _ N h => h) (fun i hi Y hY => ⟨rfl, rfl, i, rfl, hY⟩) (all_true l (fun r => keepR r Y) hY)
    -- told.tape.append('.')
    have s5F : Same H5 HF := ((s5A.trans eD.h).trans eE.h).trans eF.h
    have s2F : Same H2 HF := (e4.h.trans e5.h).trans s5F
    have hxF := s5F _ _ hx5
    have hpF := s5F _ _ hp5
    have hphF := s5F _ _ (e5.h _ _ (e4.s _ _ jph))
    have hq0F := s5F _ _ (e5.h _ _ (e4.s _ _ jq0))
    have BF := B2.mono s2F
    have s0F := s02.trans s2F
    refine ⟨_, rfl, x, T.c_Written, dx, [("tape", .ref p), ("heights", .ref ph)], .ref p, rfl, hxF, hcW, hnt, rfl, .inl ⟨rfl, _, SqL.of hpF⟩, ?_⟩
    refine ⟨p, _, .str dt, rfl, rfl, hpF, line_lt (by rw [List.length_map]; omega), ?_⟩
    have em : ts.map V.str ++ [V.str dt] = (ts ++ [dt]).map V.str := by rw [List.map_append]; rfl
    rw [em]
    have BG := BF.upd (o := .lst ((ts ++ [dt]).map V.str)) B2 hp0
    have hxG : upd HF p (.lst ((ts ++ [dt]).map V.str)) x = some (.ins T.c_Written dx [("tape", .ref p), ("heights", .ref ph)]) := by rw [upd_ne (Ne.symm hpx)]; exact hxF
    have hpG : upd HF p (.lst ((ts ++ [dt]).map V.str)) p = some (.lst ((ts ++ [dt]).map V.str)) := upd_same
    have hphG : upd HF p (.lst ((ts ++ [dt]).map V.str)) ph = some (.lst ws) := by rw [upd_ne nphp]; exact hphF
    have hq0G : upd HF p (.lst ((ts ++ [dt]).map V.str)) q0 = some (.lst h0) := by rw [upd_ne nq0p]; exact hq0F
    have s0G : Same H (upd HF p (.lst ((ts ++ [dt]).map V.str))) := same_chg s0F (s02.free hp0)
    generalize upd HF p (.lst ((ts ++ [dt]).map V.str)) = HG at BG hxG hpG hphG hq0G s0G
    -- told.heights[0][0] = 1
    refine ⟨_, rfl, x, T.c_Written, dx, [("tape", .ref p), ("heights", .ref ph)], .ref ph, rfl, hxG, hcW, hnh, rfl, ?_⟩
    refine .inl ⟨ph, ws, 0, .ref q0, rfl, rfl, SqL.of hphG, by rw [show (0 : Int) = ((0 : Nat) : Int) from rfl, Dl.atI_nat]; exact hw0, ?_⟩
    refine ⟨q0, h0, 0, 0, rfl, rfl, hq0G, by rw [h0len]; exact ixN_nat (m := 0) (by omega), ?_⟩
    have BK := BG.upd (o := .lst (h0.set 0 (.int 1))) B2 hq0
    have hxK : upd HG q0 (.lst (h0.set 0 (.int 1))) x = some (.ins T.c_Written dx [("tape", .ref p), ("heights", .ref ph)]) := by rw [upd_ne (Ne.symm nq0x)]; exact hxG
    have hpK : upd HG q0 (.lst (h0.set 0 (.int 1))) p = some (.lst ((ts ++ [dt]).map V.str)) := by rw [upd_ne (Ne.symm nq0p)]; exact hpG
    have s0K : Same H (upd HG q0 (.lst (h0.set 0 (.int 1)))) := same_chg s0G (s02.free hq0)
    generalize upd HG q0 (.lst (h0.set 0 (.int 1))) = HK at BK hxK hpK s0K
    have jp0 : Jb a a2 b b2 kvs (tape.map V.str) p = none := B2.out hp0
    have jx2 : upd (Jb a a2 b b2 kvs (tape.map V.str)) p (.lst ((ts ++ [dt]).map V.str)) x = none := by rw [upd_ne (Ne.symm hpx)]; exact B2.out hx0
    have sK : Same (Jb a a2 b b2 kvs (tape.map V.str)) (upd (upd (Jb a a2 b b2 kvs (tape.map V.str)) p (.lst ((ts ++ [dt]).map V.str))) x (.ins T.c_Written dx [("tape", .ref p), ("heights", .ref ph)])) := (same_up jp0).trans (same_up jx2)
    have rbK : Rep (upd (upd (Jb a a2 b b2 kvs (tape.map V.str)) p (.lst ((ts ++ [dt]).map V.str))) x (.ins T.c_Written dx [("tape", .ref p), ("heights", .ref ph)])) (wD T.c_Written (ts ++ [dt]) (.at ph)) (.ref x) := rep_wri upd_same (by rw [upd_ne hpx, upd_same]) rp_at
    have sJK := same_add (same_add BK.same hpK) hxK
    have hadd : ∀ y ∈ ts ++ [dt], y.length ≤ 100000 := fun y hy => by
      rcases List.mem_append.mp hy with h | h
      · have := rowlen y (R.ins y h); omega
      · rw [List.mem_singleton.mp h]; decide
    refine upT_gv false sJK (.im (bR sK) (.im (bT sK) (.im rp_str (.im (bT2 sK) (.im (bR2 sK) (.im rbK (.im rp_int (.no (.no (.no (.no (.no (.no (.no .nil)))))))))))))) (gv_test (gv_notB (a := false) (b := false) (gv_altL (gv_meth (es := [rD r, sD tape, .str z]) (fun Q q => q) (by decide +kernel) (gva_cons (fun Q q => q) (gva_cons (fun Q q => q) (gva_cons (fun Q q => q) gva_nil))) rfl (fun P q => ⟨r, w', tape, z, g, ht, hz, .inr ⟨ts ++ [dt], .at ph, by rw [List.length_append]; show ts.length + 1 ≤ 1000; have := R.len; omega, hadd, by rw [List.length_append]; show ts.length + 1 ≠ _; have := R.len; omega, rfl, q⟩⟩))) (fun Q q => q))) fun JL HL eL => iteF ?_
    -- again
    have BL := BK.mono eL.h
    refine ⟨_, _, fun x => ∃ ts2, Right r w' tape (tl z) ts2 ∧ x = .im (wD T.c_Written ts2 (iiD (highL r (tl z) tape))), Sl.ok (.im (bR sR) (.im (bT sR) (.im rp_str (.im (bT2 sR) (.im (bR2 sR) (.no (.im rp_int (.no (.no (.no (.no (.no (.no (.no .nil)))))))))))))) BL.same, ?_, fun y hy v8 JM HM eM q8 => ?_⟩
    · exact call_all [rD r, sD tape, .str z] (gva_cons (fun Q q => q) (gva_cons (fun Q q => q) (gva_cons (fun Q q => q) gva_nil))) rfl ⟨r, w', tape, z, g, ht, hz, rfl, fun h => absurd h hk, fun _ ts2 R2 => ⟨ts2, R2, rfl⟩⟩
    obtain ⟨ts2, R2', rfl⟩ := hy
    have edue2 : holesT ts2 - holesT tape = v := by rw [holes_tape hw tape ts2 R2'.len.symm ht.1 R2'.ins, R2'.sum, eh]
    have htsl2 : ts2.length ≤ 1000 := by rw [R2'.len]; omega
    refine up_gv (.im (.bl true)) eM.s (.im (bR eM.j) (.im (bT eM.j) (.im rp_str (.im (bT2 eM.j) (.im (bR2 eM.j) (.no (.im rp_int (.no (.im q8 (.no (.no (.no (.no (.no .nil)))))))))))))) (gv_and (a := true) (b := true) ?_ fun _ => ?_) fun v9 JN HN eN q9 => ?_
    · refine gv_op (.im (.int (holesT ts2 - holesT tape))) (.im (.int v)) (gv_sub (gv_call [sD ts2] (gva_cons (gv_fld (ns := ["tape", "heights"]) (ds := [sD ts2, iiD (highL r (tl z) tape)]) (fun Q q => q) hcW hnt rfl) gva_nil) rfl (fun P q => ⟨ts2, htsl2, fun x hx => rowlen x (R2'.ins x hx), rfl, q⟩)) (gv_call [sD tape] (gva_cons (fun Q q => q) gva_nil) rfl (fun P q => ⟨tape, by omega, fun x hx => rowlen x (ht.1 x hx), rfl, q⟩))) (fun Q q => q) (fun Q q => ?_)
      show Q (.im (.bl ((holesT ts2 - holesT tape) == v)))
      rw [edue2, beq_self_eq_true]
      exact q
    · exact gv_call [rD r, sD tape, .str z, iiD (highL r (tl z) tape)] (gva_cons (fun Q q => q) (gva_cons (fun Q q => q) (gva_cons (fun Q q => q) (gva_cons (gv_fld (ns := ["tape", "heights"]) (ds := [sD ts2, iiD (highL r (tl z) tape)]) (fun Q q => q) hcW hnh rfl) gva_nil)))) rfl (fun P q => ⟨r, w', tape, z, g, ht, hz, rfl, q⟩)
    have e9' : v9 = .bl true := by have q9 : Rep JN (.bl true) v9 := q9; simp only [Rep] at q9; exact q9
    subst e9'
    exact fin HN (((s0K.trans eL.h).trans eM.h).trans eN.h)
end
end H2
set_option Elab.async false
set_option linter.all false
set_option maxRecDepth 100000
set_option maxHeartbeats 4000000
/-! The law's own def (printed by genj.py). -/
namespace H2
open PySem PySem.Spec PyProof.Rows L2 Dl M W02 R2
def spL (K : PySem.W.Frag) : Sp := fun vs H Q _ => ∃ (a : Addr) (ns : List Int), vs = [.ref a] ∧ SqL K H a (ns.map V.int) ∧ ns.length ≤ 100000 ∧ ∀ H', Q (.bl true) H'
theorem seq_slice {U : DTS} {DD : DEnds} {ds : List D} {ρ : Dl.Env} (h : dSeq (dAsg (dSl (dVar 0) dNoPart (dPart (dC (.int 63)))) (dSt false 0)) U DD (some (.im (.lst ds)) :: ρ)) : U DD (some (.im (.lst (Dl.cutD ds none (some 63)))) :: ρ) := h
section
variable {P : Program} {w : World} {K : PySem.W.Frag} {mg : Str → Option Value} {base : Heap}
theorem ok_L (T : W02.Txt K mg) (hi : C8.InsC K T.c_Barred) (hcW : Cls K T.c_Written) (hcB : Cls K T.c_Barred) (hnm : NoAttr K T.c_Barred "marks") (hnh : NoAttr K T.c_Written "heights") (c__law_pool : C8.Cal P w K mg base 4 "_law_pool" (spD 2 f__law_pool) []) (c__law_reader : C8.Cal P w K mg base 4 "_law_reader" (spD 4 f__law_reader) []) (c__law_width : C8.Cal P w K mg base 1 "_law_width" (spD 1 f__law_width) []) (c__law_digits : C8.Cal P w K mg base 3 "_law_digits" (spD 4 f__law_digits) []) (c__law_tape : C8.Cal P w K mg base 4 "_law_tape" (spD 4 f__law_tape) []) (c__law_text : C8.Cal P w K mg base 4 "_law_text" (spD 4 f__law_text) []) (c__law_reads : C8.Cal P w K mg base 2 "_law_reads" (spD 2 f__law_reads) []) (c__law_write_right : C8.Cal P w K mg base 10 "_law_write_right" (spD 3 f__law_write_right) []) (c_write : C8.Cal P w K mg base 6 "write" (spD 3 (f_write T.c_Written T.c_Barred)) [])
    {f : Addr} {fd : FuncData} (F : FunD K "law" "law" (defArgs (top 70)) (defBody (top 70)) (defScope (top 70)) [] [] f fd) :
    FnOk P w K mg base C8.CX0 11 f fd ["_law_script"] (spL K) := by
  refine F.ok sc_law (fun vs H Q E h => ?_) (fun cdv A outer s H vs Q E hr h => ?_)
  · obtain ⟨a, ns, rfl, _⟩ := h
    rfl
  · obtain ⟨a, ns, rfl, hS, hl, hQ⟩ := h
    refine ⟨_, PSs.nox (pss_cons (ps_set (i := 0) sc_law.nd rfl (by first | exact Or.inl rfl | exact Or.inr rfl) (pe_slice sl_list (pv 0) po_none (po_some pe_int)))
      (xss_cons (xs_set false (i := 1) sc_law.nd rfl (by first | exact Or.inl rfl | exact Or.inr rfl) (xe_call c__law_pool hr (by decide) (by rfl) (xa_cons (xe_var 0) (xa_cons xe_int xa_nil))))
      (xss_cons (xs_for PassesOwn.never rfl (xi_range2 (by rfl) T.range xe_int (xe_max2 (by rfl) (by rfl) T.max (xa_cons xe_int (xa_cons (xe_min2 (by rfl) (by rfl) T.min (xa_cons xe_int (xa_cons (xe_len (by rfl) T.len (xa_cons (xe_var 0) xa_nil)) xa_nil))) xa_nil)))) (xg_st false (i := 2) sc_law.nd rfl (by first | exact Or.inl rfl | exact Or.inr rfl)) (xss_cons (xs_set false (i := 3) sc_law.nd rfl (by first | exact Or.inl rfl | exact Or.inr rfl) (xe_call c__law_reader hr (by decide) (by rfl) (xa_cons (xe_var 0) (xa_cons (xe_var 2) (xa_cons (xe_var 1) (xa_cons xe_int xa_nil))))))
      (xss_cons (xs_par false false (i := 4) (j := 5) rfl sc_law.nd rfl rfl (by decide) rfl rfl (xe_call c__law_width hr (by decide) (by rfl) (xa_cons (xe_var 3) xa_nil)) (xe_call c__law_digits hr (by decide) (by rfl) (xa_cons (xe_var 0) (xa_cons (xe_add (xe_var 2) xe_int) (xa_cons xe_int (xa_cons xe_int xa_nil))))) rfl)
      (xss_cons (xs_set false (i := 6) sc_law.nd rfl (by first | exact Or.inl rfl | exact Or.inr rfl) (xe_call c__law_tape hr (by decide) (by rfl) (xa_cons (xe_var 0) (xa_cons (xe_add (xe_var 2) xe_int) (xa_cons (xe_var 4) (xa_cons (xe_if (xt_eq (xe_mod (xe_idx (xe_var 5) xe_int) xe_int) xe_int) xe_int (xe_mod (xe_idx (xe_var 5) xe_int) xe_int)) xa_nil))))))
      (xss_cons (xs_set false (i := 7) sc_law.nd rfl (by first | exact Or.inl rfl | exact Or.inr rfl) (xe_call c__law_text hr (by decide) (by rfl) (xa_cons (xe_var 0) (xa_cons (xe_add (xe_var 2) xe_int) (xa_cons (xe_var 1) (xa_cons (xe_mod (xe_mod (xe_idx (xe_var 5) xe_int) (xe_add (xe_len (by rfl) T.len (xa_cons (xe_var 6) xa_nil)) xe_int)) xe_int) xa_nil))))))
      (xss_cons (xs_set false (i := 8) sc_law.nd rfl (by first | exact Or.inl rfl | exact Or.inr rfl) (xe_call c__law_reads hr (by decide) (by rfl) (xa_cons (xe_var 3) (xa_cons (xe_var 6) xa_nil))))
      (xss_one (xs_for PassesOwn.never rfl (xi_tup (xe_tup (xa_cons (xe_var 7) (xa_cons (xe_slice (xe_var 7) xo_none (xo_some (xe_add xe_int (xe_mod (xe_idx (xe_var 5) xe_int) xe_int)))) (xa_cons (xe_var 8) (xa_cons (xe_slice (xe_var 8) (xo_some xe_int) xo_none) (xa_cons (xe_catS (xe_str2 (xe_var 8)) (xe_idx (xe_var 1) xe_int)) (xa_cons (xe_repS (xe_idx (xe_var 1) xe_int) (xe_mod (xe_idx (xe_var 5) xe_int) xe_int)) xa_nil)))))))) (xg_st false (i := 9) sc_law.nd rfl (by first | exact Or.inl rfl | exact Or.inr rfl)) (xss_one (xs_if (xt_not (xt_val (xe_call c__law_write_right hr (by decide) (by rfl) (xa_cons (xe_var 3) (xa_cons (xe_var 6) (xa_cons (xe_slice (xe_var 9) xo_none (xo_some xe_int)) xa_nil)))))) (xss_one (xs_ret xe_bl)) xss_nil))))))))))
      (xss_cons (xs_set false (i := 10) sc_law.nd rfl (by first | exact Or.inl rfl | exact Or.inr rfl) (xe_call c_write hr (by decide) (by rfl) (xa_cons (xe_fz (xe_disp1 xe_str xe_str)) (xa_cons (xe_fz (xe_lst (xa_cons xe_str xa_nil))) (xa_cons xe_str xa_nil)))))
      (xss_one (xs_ret (xe_and (xe_isiC (by rfl) T.isinstance (xa_cons (xe_var 10) (xa_cons (xe_gat (by rfl) T.a_Barred) xa_nil))) (xe_and (xe_eqD (Room.u64 hr) (xe_fld (xe_var 10)) (xe_lst (xa_cons xe_int (xa_cons xe_int xa_nil)))) (xe_one (xe_eqD (Room.u64 hr) (xe_fld (xe_call c_write hr (by decide) (by rfl) (xa_cons (xe_fz (xe_disp1 xe_str xe_str)) (xa_cons (xe_fz (xe_lst xa_nil)) (xa_cons xe_str xa_nil))))) (xe_lst (xa_cons (xe_fz (xe_lst (xa_cons xe_int xa_nil))) xa_nil)))))))))))), ?_⟩
    refine ⟨_, rfl, 63, rfl, a, ns.map V.int, rfl, hS, fun p hp => ?_⟩
    have ec : cutV (ns.map V.int) none (some 63) = (ns.take 63).map V.int := by
      show ((ns.map V.int).drop _).take _ = _
      have := cut_to (ns.map V.int) 63
      unfold Dl.cutD at this
      rw [List.map_take]
      exact this
    rw [ec]
    have em : Dl.cutD (ns.map D.int) none (some 63) = (ns.take 63).map D.int := by
      rw [show (63 : Int) = ((63 : Nat) : Int) from rfl, cut_to, List.map_take]
    have hp0 : upd (fun _ => none) p (.lst ((ns.take 63).map V.int)) p = some (HO.lst ((ns.take 63).map V.int)) := upd_same
    have s1 : Same (upd (fun _ => none) p (.lst ((ns.take 63).map V.int))) (upd H p (.lst ((ns.take 63).map V.int))) := fun b u q => by
      by_cases e : b = p
      · subst e; rw [upd_same] at q ⊢; exact q
      · rw [upd_ne e] at q; cases q
    have pl := p_law (K := K) (cW := T.c_Written) (cB := T.c_Barred) hi hcB hnm hcW hnh [iD ns] (fun d => d = .bl true) ⟨ns, hl, rfl, rfl⟩
    refine ⟨_, _, _, envO (some (iD (ns.take 63)) :: List.replicate 10 none), { nx := fun _ => D.non = .bl true, rt := fun d => d = .bl true }, Sl.ok (.im (rep_iDo hp0) (.no (.no (.no (.no (.no (.no (.no (.no (.no (.no .nil))))))))))) s1, ⟨.refl _, .refl _, fun _ _ q => .inl q, fun i d p q _ => (Sl.nomu _ i d q).elim⟩, ?_, ⟨fun {ρ σ J' H'} k f hh => ?_, fun _ _ h => h.elim, fun _ _ h => h.elim, fun {d v J' H'} e rr hd => ?_⟩⟩
    · have pl3 := seq_slice pl
      rw [em] at pl3
      exact pl3
    · cases hh
    · subst hd
      simp only [Rep] at rr
      rw [rr]
      exact hQ _
end
end H2
set_option Elab.async false
set_option linter.all false
set_option maxRecDepth 100000
set_option maxHeartbeats 0
/-! The head, printed by genhead.py. -/
namespace Hd
open PySem PySem.Spec PyProof.Rows L2 W02
/-- what isinstance asks of an own class -/
def insB (K : PySem.W.Frag) (C : Addr) : Bool := He.eqO (PySem.W.findIn K (.ref C) "__class__") (some (some (.builtin "object.__class__"))) && (He.eqO (PySem.W.specialIn K (.builtin "object.__class__") "__get__") (some (some (.builtin "getset_descriptor.__get__"))) && (decide (PySem.W.takesIn K (.builtin "object.__class__") = some true) && (decide (PySem.W.mroIn K C (.type "object") = some true) && decide (PySem.W.kitOne K (.ref C) (.ref C) = some true))))
def kitB (K : PySem.W.Frag) (q : Str × List (Str × Bool)) : Bool := insB K (He.ga K q.1) && q.2.all fun p => decide (PySem.W.kitOne K (.ref (He.ga K q.1)) (.ref (He.ga K p.1)) = some p.2)
abbrev AlX : Type := Bool × He.AlD
def obsX (kn : List (Str × List (Str × Bool))) (fa : List He.Fa) (fn : List He.DefD) (K : PySem.W.Frag) : AlX := (kn.all fun q => kitB K q, He.obsD fa fn K)
/-- what the end leans on -/
structure SaysX (kn : List (Str × List (Str × Bool))) (fa : List He.Fa) (fn : List He.DefD) (K : PySem.W.Frag) : Prop where
  kn : (kn.all fun q => kitB K q) = true
  d : He.SaysD fa fn K
def hookX (kn : List (Str × List (Str × Bool))) (fa : List He.Fa) (fn : List He.DefD) : PySem.W.Hook where
  α := AlX
  obs := fun s => obsX kn fa fn (He.frG s.heap.get? (List.range s.heap.objs.size))
  val := fun _ => (true, He.valD fn)
  says := fun _ h => ∃ K : PySem.W.Frag, K.In h ∧ SaysX kn fa fn K
  of := fun _ _ e => ⟨_, He.frG_in, congrArg Prod.fst e, congrArg Prod.snd e⟩
  keeps := fun _ _ _ ⟨K, hK, c⟩ k => ⟨K, PySem.W.Frag.In.keeps hK k, c⟩
theorem SaysX.ins {kn : List (Str × List (Str × Bool))} {fa : List He.Fa} {fn : List He.DefD} {K : PySem.W.Frag} (c : SaysX kn fa fn K) (i : Nat) {q : Str × List (Str × Bool)} (hc : Cls K (He.ga K q.1)) (h : kn[i]? = some q := by rfl) : C8.InsC K (He.ga K q.1) ∧ ∀ p ∈ q.2, PySem.W.kitOne K (.ref (He.ga K q.1)) (.ref (He.ga K p.1)) = some p.2 := by
  have c1 := List.all_eq_true.mp c.kn q (List.mem_of_getElem? h)
  unfold kitB at c1
  obtain ⟨c2, c3⟩ := He.ba c1
  unfold insB at c2
  obtain ⟨d1, c2⟩ := He.ba c2
  obtain ⟨d2, c2⟩ := He.ba c2
  obtain ⟨d3, c2⟩ := He.ba c2
  obtain ⟨d4, d5⟩ := He.ba c2
  exact ⟨⟨hc, He.eqO_ok d1, He.eqO_ok d2, of_decide_eq_true d3, of_decide_eq_true d4, of_decide_eq_true d5⟩, fun p hp => of_decide_eq_true (List.all_eq_true.mp c3 p hp)⟩
def d_is_row : He.DefD := ⟨("is_row", none), "is_row", "is_row", defArgs (top 11), defBody (top 11), defScope (top 11), [], []⟩
def d_is_letter : He.DefD := ⟨("is_letter", none), "is_letter", "is_letter", defArgs (top 12), defBody (top 12), defScope (top 12), [], []⟩
def d_width_of : He.DefD := ⟨("width_of", none), "width_of", "width_of", defArgs (top 13), defBody (top 13), defScope (top 13), [], []⟩
def d_check_tape : He.DefD := ⟨("check_tape", none), "check_tape", "check_tape", defArgs (top 14), defBody (top 14), defScope (top 14), [], []⟩
def d_check_text : He.DefD := ⟨("check_text", none), "check_text", "check_text", defArgs (top 15), defBody (top 15), defScope (top 15), [], []⟩
def d_goes_over : He.DefD := ⟨("goes_over", none), "goes_over", "goes_over", defArgs (top 16), defBody (top 16), defScope (top 16), [], []⟩
def d_cost_of : He.DefD := ⟨("cost_of", none), "cost_of", "cost_of", defArgs (top 17), defBody (top 17), defScope (top 17), [], []⟩
def d_rows_of : He.DefD := ⟨("rows_of", none), "rows_of", "rows_of", defArgs (top 18), defBody (top 18), defScope (top 18), [], []⟩
def d_above : He.DefD := ⟨("above", none), "above", "above", defArgs (top 19), defBody (top 19), defScope (top 19), [], []⟩
def d_meaning : He.DefD := ⟨("meaning", none), "meaning", "meaning", defArgs (top 21), defBody (top 21), defScope (top 21), [], []⟩
def d_text_of : He.DefD := ⟨("text_of", none), "text_of", "text_of", defArgs (top 22), defBody (top 22), defScope (top 22), [], []⟩
def d_over : He.DefD := ⟨("over", none), "over", "over", defArgs (top 23), defBody (top 23), defScope (top 23), [], []⟩
def d_taken : He.DefD := ⟨("taken", none), "taken", "taken", defArgs (top 24), defBody (top 24), defScope (top 24), [], []⟩
def d_cheapest : He.DefD := ⟨("cheapest", none), "cheapest", "cheapest", defArgs (top 27), defBody (top 27), defScope (top 27), [], []⟩
def d_are_tape : He.DefD := ⟨("are_tape", none), "are_tape", "are_tape", defArgs (top 28), defBody (top 28), defScope (top 28), [], []⟩
def d_holds : He.DefD := ⟨("holds", none), "holds", "holds", defArgs (top 29), defBody (top 29), defScope (top 29), [], []⟩
def d_Written___init__ : He.DefD := ⟨("Written", some "__init__"), "__init__", "Written.__init__", defArgs (inClass (top 30) 0), defBody (inClass (top 30) 0), defScope (inClass (top 30) 0), [], []⟩
def d_Written_shows : He.DefD := ⟨("Written", some "shows"), "shows", "Written.shows", defArgs (inClass (top 30) 1), defBody (inClass (top 30) 1), defScope (inClass (top 30) 1), [], []⟩
def d_Barred___init__ : He.DefD := ⟨("Barred", some "__init__"), "__init__", "Barred.__init__", defArgs (inClass (top 31) 0), defBody (inClass (top 31) 0), defScope (inClass (top 31) 0), [], []⟩
def d_Barred_shows : He.DefD := ⟨("Barred", some "shows"), "shows", "Barred.shows", defArgs (inClass (top 31) 1), defBody (inClass (top 31) 1), defScope (inClass (top 31) 1), [], []⟩
def d_marks_of : He.DefD := ⟨("marks_of", none), "marks_of", "marks_of", defArgs (top 41), defBody (top 41), defScope (top 41), [], []⟩
def d_heights_of : He.DefD := ⟨("heights_of", none), "heights_of", "heights_of", defArgs (top 42), defBody (top 42), defScope (top 42), [], []⟩
def d_first_row : He.DefD := ⟨("first_row", none), "first_row", "first_row", defArgs (top 43), defBody (top 43), defScope (top 43), [], []⟩
def d_tape_by : He.DefD := ⟨("tape_by", none), "tape_by", "tape_by", defArgs (top 44), defBody (top 44), defScope (top 44), [], []⟩
def d_written : He.DefD := ⟨("written", none), "written", "written", defArgs (top 45), defBody (top 45), defScope (top 45), [], []⟩
def d_check_all : He.DefD := ⟨("check_all", none), "check_all", "check_all", defArgs (top 46), defBody (top 46), defScope (top 46), [], []⟩
def d_write : He.DefD := ⟨("write", none), "write", "write", defArgs (top 47), defBody (top 47), defScope (top 47), [], []⟩
def d__law_draw : He.DefD := ⟨("_law_draw", none), "_law_draw", "_law_draw", defArgs (top 49), defBody (top 49), defScope (top 49), [], []⟩
def d__law_cell_at : He.DefD := ⟨("_law_cell_at", none), "_law_cell_at", "_law_cell_at", defArgs (top 50), defBody (top 50), defScope (top 50), [], []⟩
def d__law_digits : He.DefD := ⟨("_law_digits", none), "_law_digits", "_law_digits", defArgs (top 51), defBody (top 51), defScope (top 51), [], []⟩
def d__law_rows : He.DefD := ⟨("_law_rows", none), "_law_rows", "_law_rows", defArgs (top 52), defBody (top 52), defScope (top 52), [], []⟩
def d__law_pool : He.DefD := ⟨("_law_pool", none), "_law_pool", "_law_pool", defArgs (top 53), defBody (top 53), defScope (top 53), [], []⟩
def d__law_reader : He.DefD := ⟨("_law_reader", none), "_law_reader", "_law_reader", defArgs (top 54), defBody (top 54), defScope (top 54), [], []⟩
def d__law_width : He.DefD := ⟨("_law_width", none), "_law_width", "_law_width", defArgs (top 55), defBody (top 55), defScope (top 55), [], []⟩
def d__law_tape : He.DefD := ⟨("_law_tape", none), "_law_tape", "_law_tape", defArgs (top 56), defBody (top 56), defScope (top 56), [], []⟩
def d__law_text : He.DefD := ⟨("_law_text", none), "_law_text", "_law_text", defArgs (top 57), defBody (top 57), defScope (top 57), [], []⟩
def d__law_over : He.DefD := ⟨("_law_over", none), "_law_over", "_law_over", defArgs (top 58), defBody (top 58), defScope (top 58), [], []⟩
def d__law_means : He.DefD := ⟨("_law_means", none), "_law_means", "_law_means", defArgs (top 59), defBody (top 59), defScope (top 59), [], []⟩
def d__law_reads : He.DefD := ⟨("_law_reads", none), "_law_reads", "_law_reads", defArgs (top 60), defBody (top 60), defScope (top 60), [], []⟩
def d__law_holes : He.DefD := ⟨("_law_holes", none), "_law_holes", "_law_holes", defArgs (top 61), defBody (top 61), defScope (top 61), [], []⟩
def d__law_can : He.DefD := ⟨("_law_can", none), "_law_can", "_law_can", defArgs (top 62), defBody (top 62), defScope (top 62), [], []⟩
def d__law_cost : He.DefD := ⟨("_law_cost", none), "_law_cost", "_law_cost", defArgs (top 63), defBody (top 63), defScope (top 63), [], []⟩
def d__law_fewest : He.DefD := ⟨("_law_fewest", none), "_law_fewest", "_law_fewest", defArgs (top 64), defBody (top 64), defScope (top 64), [], []⟩
def d__law_are_heights : He.DefD := ⟨("_law_are_heights", none), "_law_are_heights", "_law_are_heights", defArgs (top 65), defBody (top 65), defScope (top 65), [], []⟩
def d__law_are_marks : He.DefD := ⟨("_law_are_marks", none), "_law_are_marks", "_law_are_marks", defArgs (top 66), defBody (top 66), defScope (top 66), [], []⟩
def d__law_kinds : He.DefD := ⟨("_law_kinds", none), "_law_kinds", "_law_kinds", defArgs (top 67), defBody (top 67), defScope (top 67), [], []⟩
def d__law_whole : He.DefD := ⟨("_law_whole", none), "_law_whole", "_law_whole", defArgs (top 68), defBody (top 68), defScope (top 68), [], []⟩
def d__law_write_right : He.DefD := ⟨("_law_write_right", none), "_law_write_right", "_law_write_right", defArgs (top 69), defBody (top 69), defScope (top 69), [], []⟩
def d_law : He.DefD := ⟨("law", none), "law", "law", defArgs (top 70), defBody (top 70), defScope (top 70), [], []⟩
def fn0 : List He.DefD := [d_is_row, d_is_letter, d_width_of, d_check_tape, d_check_text, d_goes_over, d_cost_of, d_rows_of, d_above, d_meaning, d_text_of, d_over, d_taken, d_cheapest, d_are_tape, d_holds, d_Written___init__, d_Written_shows, d_Barred___init__, d_Barred_shows, d_marks_of, d_heights_of, d_first_row, d_tape_by, d_written, d_check_all, d_write, d__law_draw, d__law_cell_at, d__law_digits]
def fn1 : List He.DefD := [d__law_rows, d__law_pool, d__law_reader, d__law_width, d__law_tape, d__law_text, d__law_over, d__law_means, d__law_reads, d__law_holes, d__law_can, d__law_cost, d__law_fewest, d__law_are_heights, d__law_are_marks, d__law_kinds, d__law_whole, d__law_write_right, d_law]
def fn : List He.DefD := fn0 ++ fn1
def fa0 : List He.Fa := [.glo "Written", .glo "Barred", .glo "Stood", .glo "Never", .glo "Bears", .glo "Breaks", .glo "Answer", .free "len", .free "abs", .free "sum", .free "any", .free "all", .free "min", .free "max", .free "sorted", .free "isinstance", .free "range", .free "enumerate", .free "zip", .free "reversed", .free "int", .free "str", .free "list", .free "dict", .free "bool", .str "HOLE" "o", .str "BLANK" ".", .str "LETTERS" "abcdefghijklmnopqrstuvwxyz", .int "WIDEST" 4, .int "MOST" 30]
def fa1 : List He.Fa := [.int "FAR" 1000, .cls "Written", .cls "Barred", .noat "Written" "tape", .noat "Written" "heights", .noat "Barred" "marks", .meth "Written" "shows", .meth "Barred" "shows", .mkr "Written", .mkr "Barred", .glo "is_row", .glo "is_letter", .glo "width_of", .glo "check_tape", .glo "check_text", .glo "goes_over", .glo "cost_of", .glo "rows_of", .glo "above", .glo "meaning", .glo "text_of", .glo "over", .glo "taken", .glo "cheapest", .glo "are_tape", .glo "holds", .glo "marks_of", .glo "heights_of", .glo "first_row", .glo "tape_by"]
def fa2 : List He.Fa := [.glo "written", .glo "check_all", .glo "write", .glo "_law_draw", .glo "_law_cell_at", .glo "_law_digits", .glo "_law_rows", .glo "_law_pool", .glo "_law_reader", .glo "_law_width", .glo "_law_tape", .glo "_law_text", .glo "_law_over", .glo "_law_means", .glo "_law_reads", .glo "_law_holes", .glo "_law_can", .glo "_law_cost", .glo "_law_fewest", .glo "_law_are_heights", .glo "_law_are_marks", .glo "_law_kinds", .glo "_law_whole", .glo "_law_write_right", .glo "law"]
def fa : List He.Fa := fa0 ++ fa1 ++ fa2
def kn : List (Str × List (Str × Bool)) := [("Written", [("Written", true), ("Barred", false), ("Stood", false), ("Never", false), ("Bears", false), ("Breaks", false), ("Answer", true)]), ("Barred", [("Written", false), ("Barred", true), ("Stood", false), ("Never", false), ("Bears", false), ("Breaks", false), ("Answer", true)])]
abbrev Rw : PySem.W.OpenRow := PySem.W.OpenLaw.row PySem.Challenge.rw_holetape_k02_whole_written
abbrev hk : PySem.W.Hook := hookX kn fa fn
def ob (s : PySem.W.SharedT) : AlX := obsX kn fa fn (He.frG (HandSHeadRun.getT s) (List.range s.n))
theorem ob_eq (s : PySem.W.SharedT) : ob s = hk.obs s.abs := by
  have e1 : HandSHeadRun.getT s = s.abs.heap.get? := funext (HandSHeadRun.getT_eq s)
  have e2 : s.abs.heap.objs.size = s.n := PySem.W.absHeap_size s.tree s.n s.life
  show obsX kn fa fn (He.frG (HandSHeadRun.getT s) (List.range s.n)) = obsX kn fa fn (He.frG s.abs.heap.get? (List.range s.abs.heap.objs.size))
  rw [e1, e2]
def ns0 : List Str := ["TapeError", "BadReader", "BadTape", "BadText", "HOLE", "BLANK", "LETTERS", "WIDEST", "MOST", "is_row", "is_letter", "width_of", "check_tape", "check_text", "goes_over", "cost_of", "rows_of", "above", "below", "meaning", "text_of", "over", "taken", "Answer", "cheapest", "are_tape", "holds", "Written", "Barred", "Stood"]
def ns1 : List Str := ["Never", "letters_of", "next_rows", "Bears", "Breaks", "copied", "FAR", "marks_of", "heights_of", "first_row", "tape_by", "written", "check_all", "write", "_law_draw", "_law_cell_at", "_law_digits", "_law_rows", "_law_pool", "_law_reader", "_law_width", "_law_tape", "_law_text", "_law_over", "_law_means", "_law_reads", "_law_holes", "_law_can", "_law_cost", "_law_fewest"]
def ns2 : List Str := ["_law_are_heights", "_law_are_marks", "_law_kinds", "_law_whole", "_law_write_right"]
def ns : List Str := ns0 ++ ns1 ++ ns2
theorem run (w : World) : HandSHeadRun.RunEq Rw (PySem.W.view Rw.prog [70]) hk ob 8000 ns w := by
  intro os
  kernel_rfl
end Hd
set_option Elab.async false
set_option linter.all false
set_option maxRecDepth 100000
set_option maxHeartbeats 4000000
/-! The join (printed by genjoin02.py). -/
namespace J2
open PySem PySem.Spec PyProof.Rows L2 Dl M W02 R2 H2 Hd
section
variable {P : Program} {w : World} {K : PySem.W.Frag} {h : Heap} {mg : Str → Option Value}
def txt (X : K.In h) (G : h.Ns mainGlobals mg) (c : SaysX Hd.kn Hd.fa Hd.fn K) : W02.Txt K mg where
  len := He.free_ok X G (c.d.fact 7 (f := .free "len") rfl)
  abs := He.free_ok X G (c.d.fact 8 (f := .free "abs") rfl)
  sum := He.free_ok X G (c.d.fact 9 (f := .free "sum") rfl)
  any := He.free_ok X G (c.d.fact 10 (f := .free "any") rfl)
  all := He.free_ok X G (c.d.fact 11 (f := .free "all") rfl)
  min := He.free_ok X G (c.d.fact 12 (f := .free "min") rfl)
  max := He.free_ok X G (c.d.fact 13 (f := .free "max") rfl)
  sorted := He.free_ok X G (c.d.fact 14 (f := .free "sorted") rfl)
  isinstance := He.free_ok X G (c.d.fact 15 (f := .free "isinstance") rfl)
  range := He.free_ok X G (c.d.fact 16 (f := .free "range") rfl)
  enumerate := He.free_ok X G (c.d.fact 17 (f := .free "enumerate") rfl)
  zip := He.free_ok X G (c.d.fact 18 (f := .free "zip") rfl)
  reversed := He.free_ok X G (c.d.fact 19 (f := .free "reversed") rfl)
  int_ := He.free_ok X G (c.d.fact 20 (f := .free "int") rfl)
  str_ := He.free_ok X G (c.d.fact 21 (f := .free "str") rfl)
  list_ := He.free_ok X G (c.d.fact 22 (f := .free "list") rfl)
  dict_ := He.free_ok X G (c.d.fact 23 (f := .free "dict") rfl)
  bool_ := He.free_ok X G (c.d.fact 24 (f := .free "bool") rfl)
  HOLE := (He.str_ok X G (c.d.fact 25 (f := .str "HOLE" "o") rfl)).elim fun t e => ⟨_, e, t, rfl⟩
  BLANK := (He.str_ok X G (c.d.fact 26 (f := .str "BLANK" ".") rfl)).elim fun t e => ⟨_, e, t, rfl⟩
  LETTERS := (He.str_ok X G (c.d.fact 27 (f := .str "LETTERS" "abcdefghijklmnopqrstuvwxyz") rfl)).elim fun t e => ⟨_, e, t, rfl⟩
  WIDEST := (He.int_ok X G (c.d.fact 28 (f := .int "WIDEST" 4) rfl)).elim fun t e => ⟨_, e, t, rfl⟩
  MOST := (He.int_ok X G (c.d.fact 29 (f := .int "MOST" 30) rfl)).elim fun t e => ⟨_, e, t, rfl⟩
  FAR := (He.int_ok X G (c.d.fact 30 (f := .int "FAR" 1000) rfl)).elim fun t e => ⟨_, e, t, rfl⟩
  c_Written := He.ga K "Written"
  a_Written := ⟨_, He.glo_ok X G (c.d.fact 0 (f := .glo "Written") rfl), rfl⟩
  c_Barred := He.ga K "Barred"
  a_Barred := ⟨_, He.glo_ok X G (c.d.fact 1 (f := .glo "Barred") rfl), rfl⟩
  c_Stood := He.ga K "Stood"
  a_Stood := ⟨_, He.glo_ok X G (c.d.fact 2 (f := .glo "Stood") rfl), rfl⟩
  c_Never := He.ga K "Never"
  a_Never := ⟨_, He.glo_ok X G (c.d.fact 3 (f := .glo "Never") rfl), rfl⟩
  c_Bears := He.ga K "Bears"
  a_Bears := ⟨_, He.glo_ok X G (c.d.fact 4 (f := .glo "Bears") rfl), rfl⟩
  c_Breaks := He.ga K "Breaks"
  a_Breaks := ⟨_, He.glo_ok X G (c.d.fact 5 (f := .glo "Breaks") rfl), rfl⟩
  c_Answer := He.ga K "Answer"
  a_Answer := ⟨_, He.glo_ok X G (c.d.fact 6 (f := .glo "Answer") rfl), rfl⟩
theorem facts (X : K.In h) (G : h.Ns mainGlobals mg) (c : SaysX Hd.kn Hd.fa Hd.fn K) {f : Addr} (hfa : mg ("law" : Str) = some (.ref f)) :
    ∃ fd : FuncData, (∀ (s : Shared) (v : Value), BindsTo s fd ⟨[v], []⟩ [("_law_script", v)]) ∧ ∀ base : Heap, K.In base → base.Ns mainGlobals mg → FnOk P w K mg base C8.CX0 11 f fd ["_law_script"] (spL K) := by
  have D_is_row : De K mg "is_row" (top 11) := by
    obtain ⟨fd, F⟩ := c.d.def_ 0 (d := Hd.d_is_row) rfl
    exact ⟨_, fd, F, He.glo_ok X G (c.d.fact 40 (f := .glo "is_row") rfl)⟩
  have D_is_letter : De K mg "is_letter" (top 12) := by
    obtain ⟨fd, F⟩ := c.d.def_ 1 (d := Hd.d_is_letter) rfl
    exact ⟨_, fd, F, He.glo_ok X G (c.d.fact 41 (f := .glo "is_letter") rfl)⟩
  have D_width_of : De K mg "width_of" (top 13) := by
    obtain ⟨fd, F⟩ := c.d.def_ 2 (d := Hd.d_width_of) rfl
    exact ⟨_, fd, F, He.glo_ok X G (c.d.fact 42 (f := .glo "width_of") rfl)⟩
  have D_check_tape : De K mg "check_tape" (top 14) := by
    obtain ⟨fd, F⟩ := c.d.def_ 3 (d := Hd.d_check_tape) rfl
    exact ⟨_, fd, F, He.glo_ok X G (c.d.fact 43 (f := .glo "check_tape") rfl)⟩
  have D_check_text : De K mg "check_text" (top 15) := by
    obtain ⟨fd, F⟩ := c.d.def_ 4 (d := Hd.d_check_text) rfl
    exact ⟨_, fd, F, He.glo_ok X G (c.d.fact 44 (f := .glo "check_text") rfl)⟩
  have D_goes_over : De K mg "goes_over" (top 16) := by
    obtain ⟨fd, F⟩ := c.d.def_ 5 (d := Hd.d_goes_over) rfl
    exact ⟨_, fd, F, He.glo_ok X G (c.d.fact 45 (f := .glo "goes_over") rfl)⟩
  have D_cost_of : De K mg "cost_of" (top 17) := by
    obtain ⟨fd, F⟩ := c.d.def_ 6 (d := Hd.d_cost_of) rfl
    exact ⟨_, fd, F, He.glo_ok X G (c.d.fact 46 (f := .glo "cost_of") rfl)⟩
  have D_rows_of : De K mg "rows_of" (top 18) := by
    obtain ⟨fd, F⟩ := c.d.def_ 7 (d := Hd.d_rows_of) rfl
    exact ⟨_, fd, F, He.glo_ok X G (c.d.fact 47 (f := .glo "rows_of") rfl)⟩
  have D_above : De K mg "above" (top 19) := by
    obtain ⟨fd, F⟩ := c.d.def_ 8 (d := Hd.d_above) rfl
    exact ⟨_, fd, F, He.glo_ok X G (c.d.fact 48 (f := .glo "above") rfl)⟩
  have D_meaning : De K mg "meaning" (top 21) := by
    obtain ⟨fd, F⟩ := c.d.def_ 9 (d := Hd.d_meaning) rfl
    exact ⟨_, fd, F, He.glo_ok X G (c.d.fact 49 (f := .glo "meaning") rfl)⟩
  have D_text_of : De K mg "text_of" (top 22) := by
    obtain ⟨fd, F⟩ := c.d.def_ 10 (d := Hd.d_text_of) rfl
    exact ⟨_, fd, F, He.glo_ok X G (c.d.fact 50 (f := .glo "text_of") rfl)⟩
  have D_over : De K mg "over" (top 23) := by
    obtain ⟨fd, F⟩ := c.d.def_ 11 (d := Hd.d_over) rfl
    exact ⟨_, fd, F, He.glo_ok X G (c.d.fact 51 (f := .glo "over") rfl)⟩
  have D_taken : De K mg "taken" (top 24) := by
    obtain ⟨fd, F⟩ := c.d.def_ 12 (d := Hd.d_taken) rfl
    exact ⟨_, fd, F, He.glo_ok X G (c.d.fact 52 (f := .glo "taken") rfl)⟩
  have D_cheapest : De K mg "cheapest" (top 27) := by
    obtain ⟨fd, F⟩ := c.d.def_ 13 (d := Hd.d_cheapest) rfl
    exact ⟨_, fd, F, He.glo_ok X G (c.d.fact 53 (f := .glo "cheapest") rfl)⟩
  have D_are_tape : De K mg "are_tape" (top 28) := by
    obtain ⟨fd, F⟩ := c.d.def_ 14 (d := Hd.d_are_tape) rfl
    exact ⟨_, fd, F, He.glo_ok X G (c.d.fact 54 (f := .glo "are_tape") rfl)⟩
  have D_holds : De K mg "holds" (top 29) := by
    obtain ⟨fd, F⟩ := c.d.def_ 15 (d := Hd.d_holds) rfl
    exact ⟨_, fd, F, He.glo_ok X G (c.d.fact 55 (f := .glo "holds") rfl)⟩
  have D_marks_of : De K mg "marks_of" (top 41) := by
    obtain ⟨fd, F⟩ := c.d.def_ 20 (d := Hd.d_marks_of) rfl
    exact ⟨_, fd, F, He.glo_ok X G (c.d.fact 56 (f := .glo "marks_of") rfl)⟩
  have D_heights_of : De K mg "heights_of" (top 42) := by
    obtain ⟨fd, F⟩ := c.d.def_ 21 (d := Hd.d_heights_of) rfl
    exact ⟨_, fd, F, He.glo_ok X G (c.d.fact 57 (f := .glo "heights_of") rfl)⟩
  have D_first_row : De K mg "first_row" (top 43) := by
    obtain ⟨fd, F⟩ := c.d.def_ 22 (d := Hd.d_first_row) rfl
    exact ⟨_, fd, F, He.glo_ok X G (c.d.fact 58 (f := .glo "first_row") rfl)⟩
  have D_tape_by : De K mg "tape_by" (top 44) := by
    obtain ⟨fd, F⟩ := c.d.def_ 23 (d := Hd.d_tape_by) rfl
    exact ⟨_, fd, F, He.glo_ok X G (c.d.fact 59 (f := .glo "tape_by") rfl)⟩
  have D_written : De K mg "written" (top 45) := by
    obtain ⟨fd, F⟩ := c.d.def_ 24 (d := Hd.d_written) rfl
    exact ⟨_, fd, F, He.glo_ok X G (c.d.fact 60 (f := .glo "written") rfl)⟩
  have D_check_all : De K mg "check_all" (top 46) := by
    obtain ⟨fd, F⟩ := c.d.def_ 25 (d := Hd.d_check_all) rfl
    exact ⟨_, fd, F, He.glo_ok X G (c.d.fact 61 (f := .glo "check_all") rfl)⟩
  have D_write : De K mg "write" (top 47) := by
    obtain ⟨fd, F⟩ := c.d.def_ 26 (d := Hd.d_write) rfl
    exact ⟨_, fd, F, He.glo_ok X G (c.d.fact 62 (f := .glo "write") rfl)⟩
  have D__law_draw : De K mg "_law_draw" (top 49) := by
    obtain ⟨fd, F⟩ := c.d.def_ 27 (d := Hd.d__law_draw) rfl
    exact ⟨_, fd, F, He.glo_ok X G (c.d.fact 63 (f := .glo "_law_draw") rfl)⟩
  have D__law_cell_at : De K mg "_law_cell_at" (top 50) := by
    obtain ⟨fd, F⟩ := c.d.def_ 28 (d := Hd.d__law_cell_at) rfl
    exact ⟨_, fd, F, He.glo_ok X G (c.d.fact 64 (f := .glo "_law_cell_at") rfl)⟩
  have D__law_digits : De K mg "_law_digits" (top 51) := by
    obtain ⟨fd, F⟩ := c.d.def_ 29 (d := Hd.d__law_digits) rfl
    exact ⟨_, fd, F, He.glo_ok X G (c.d.fact 65 (f := .glo "_law_digits") rfl)⟩
  have D__law_rows : De K mg "_law_rows" (top 52) := by
    obtain ⟨fd, F⟩ := c.d.def_ 30 (d := Hd.d__law_rows) rfl
    exact ⟨_, fd, F, He.glo_ok X G (c.d.fact 66 (f := .glo "_law_rows") rfl)⟩
  have D__law_pool : De K mg "_law_pool" (top 53) := by
    obtain ⟨fd, F⟩ := c.d.def_ 31 (d := Hd.d__law_pool) rfl
    exact ⟨_, fd, F, He.glo_ok X G (c.d.fact 67 (f := .glo "_law_pool") rfl)⟩
  have D__law_reader : De K mg "_law_reader" (top 54) := by
    obtain ⟨fd, F⟩ := c.d.def_ 32 (d := Hd.d__law_reader) rfl
    exact ⟨_, fd, F, He.glo_ok X G (c.d.fact 68 (f := .glo "_law_reader") rfl)⟩
  have D__law_width : De K mg "_law_width" (top 55) := by
    obtain ⟨fd, F⟩ := c.d.def_ 33 (d := Hd.d__law_width) rfl
    exact ⟨_, fd, F, He.glo_ok X G (c.d.fact 69 (f := .glo "_law_width") rfl)⟩
  have D__law_tape : De K mg "_law_tape" (top 56) := by
    obtain ⟨fd, F⟩ := c.d.def_ 34 (d := Hd.d__law_tape) rfl
    exact ⟨_, fd, F, He.glo_ok X G (c.d.fact 70 (f := .glo "_law_tape") rfl)⟩
  have D__law_text : De K mg "_law_text" (top 57) := by
    obtain ⟨fd, F⟩ := c.d.def_ 35 (d := Hd.d__law_text) rfl
    exact ⟨_, fd, F, He.glo_ok X G (c.d.fact 71 (f := .glo "_law_text") rfl)⟩
  have D__law_over : De K mg "_law_over" (top 58) := by
    obtain ⟨fd, F⟩ := c.d.def_ 36 (d := Hd.d__law_over) rfl
    exact ⟨_, fd, F, He.glo_ok X G (c.d.fact 72 (f := .glo "_law_over") rfl)⟩
  have D__law_means : De K mg "_law_means" (top 59) := by
    obtain ⟨fd, F⟩ := c.d.def_ 37 (d := Hd.d__law_means) rfl
    exact ⟨_, fd, F, He.glo_ok X G (c.d.fact 73 (f := .glo "_law_means") rfl)⟩
  have D__law_reads : De K mg "_law_reads" (top 60) := by
    obtain ⟨fd, F⟩ := c.d.def_ 38 (d := Hd.d__law_reads) rfl
    exact ⟨_, fd, F, He.glo_ok X G (c.d.fact 74 (f := .glo "_law_reads") rfl)⟩
  have D__law_holes : De K mg "_law_holes" (top 61) := by
    obtain ⟨fd, F⟩ := c.d.def_ 39 (d := Hd.d__law_holes) rfl
    exact ⟨_, fd, F, He.glo_ok X G (c.d.fact 75 (f := .glo "_law_holes") rfl)⟩
  have D__law_can : De K mg "_law_can" (top 62) := by
    obtain ⟨fd, F⟩ := c.d.def_ 40 (d := Hd.d__law_can) rfl
    exact ⟨_, fd, F, He.glo_ok X G (c.d.fact 76 (f := .glo "_law_can") rfl)⟩
  have D__law_cost : De K mg "_law_cost" (top 63) := by
    obtain ⟨fd, F⟩ := c.d.def_ 41 (d := Hd.d__law_cost) rfl
    exact ⟨_, fd, F, He.glo_ok X G (c.d.fact 77 (f := .glo "_law_cost") rfl)⟩
  have D__law_fewest : De K mg "_law_fewest" (top 64) := by
    obtain ⟨fd, F⟩ := c.d.def_ 42 (d := Hd.d__law_fewest) rfl
    exact ⟨_, fd, F, He.glo_ok X G (c.d.fact 78 (f := .glo "_law_fewest") rfl)⟩
  have D__law_are_heights : De K mg "_law_are_heights" (top 65) := by
    obtain ⟨fd, F⟩ := c.d.def_ 43 (d := Hd.d__law_are_heights) rfl
    exact ⟨_, fd, F, He.glo_ok X G (c.d.fact 79 (f := .glo "_law_are_heights") rfl)⟩
  have D__law_are_marks : De K mg "_law_are_marks" (top 66) := by
    obtain ⟨fd, F⟩ := c.d.def_ 44 (d := Hd.d__law_are_marks) rfl
    exact ⟨_, fd, F, He.glo_ok X G (c.d.fact 80 (f := .glo "_law_are_marks") rfl)⟩
  have D__law_kinds : De K mg "_law_kinds" (top 67) := by
    obtain ⟨fd, F⟩ := c.d.def_ 45 (d := Hd.d__law_kinds) rfl
    exact ⟨_, fd, F, He.glo_ok X G (c.d.fact 81 (f := .glo "_law_kinds") rfl)⟩
  have D__law_whole : De K mg "_law_whole" (top 68) := by
    obtain ⟨fd, F⟩ := c.d.def_ 46 (d := Hd.d__law_whole) rfl
    exact ⟨_, fd, F, He.glo_ok X G (c.d.fact 82 (f := .glo "_law_whole") rfl)⟩
  have D__law_write_right : De K mg "_law_write_right" (top 69) := by
    obtain ⟨fd, F⟩ := c.d.def_ 47 (d := Hd.d__law_write_right) rfl
    exact ⟨_, fd, F, He.glo_ok X G (c.d.fact 83 (f := .glo "_law_write_right") rfl)⟩
  have cls_Written : Cls K (He.ga K "Written") := He.cls_ok (c.d.fact 31 (f := .cls "Written") rfl)
  have M_Written : Me K (He.ga K "Written") "shows" "Written.shows" (inClass (top 30) 1) := by
    obtain ⟨fd, F⟩ := c.d.def_ 17 (d := Hd.d_Written_shows) rfl
    exact ⟨_, fd, F, cls_Written, He.meth_ok (c.d.fact 36 (f := .meth "Written" "shows") rfl)⟩
  have cls_Barred : Cls K (He.ga K "Barred") := He.cls_ok (c.d.fact 32 (f := .cls "Barred") rfl)
  have M_Barred : Me K (He.ga K "Barred") "shows" "Barred.shows" (inClass (top 31) 1) := by
    obtain ⟨fd, F⟩ := c.d.def_ 19 (d := Hd.d_Barred_shows) rfl
    exact ⟨_, fd, F, cls_Barred, He.meth_ok (c.d.fact 37 (f := .meth "Barred" "shows") rfl)⟩
  have no_Written_tape : NoAttr K (He.ga K "Written") "tape" := He.noat_ok (c.d.fact 33 (f := .noat "Written" "tape") rfl)
  have no_Written_heights : NoAttr K (He.ga K "Written") "heights" := He.noat_ok (c.d.fact 34 (f := .noat "Written" "heights") rfl)
  have no_Barred_marks : NoAttr K (He.ga K "Barred") "marks" := He.noat_ok (c.d.fact 35 (f := .noat "Barred" "marks") rfl)
  have k_Written : Kin K (He.ga K "Written") (He.ga K "Written") (He.ga K "Barred") (He.ga K "Stood") (He.ga K "Never") (He.ga K "Bears") (He.ga K "Breaks") (He.ga K "Answer") true false := by
    obtain ⟨h1, h2⟩ := c.ins 0 (q := ("Written", [("Written", true), ("Barred", false), ("Stood", false), ("Never", false), ("Bears", false), ("Breaks", false), ("Answer", true)])) cls_Written rfl
    exact ⟨h1, h2 ("Written", true) (by simp), h2 ("Barred", false) (by simp), h2 ("Stood", false) (by simp), h2 ("Never", false) (by simp), h2 ("Bears", false) (by simp), h2 ("Breaks", false) (by simp), h2 ("Answer", true) (by simp)⟩
  have k_Barred : Kin K (He.ga K "Barred") (He.ga K "Written") (He.ga K "Barred") (He.ga K "Stood") (He.ga K "Never") (He.ga K "Bears") (He.ga K "Breaks") (He.ga K "Answer") false true := by
    obtain ⟨h1, h2⟩ := c.ins 1 (q := ("Barred", [("Written", false), ("Barred", true), ("Stood", false), ("Never", false), ("Bears", false), ("Breaks", false), ("Answer", true)])) cls_Barred rfl
    exact ⟨h1, h2 ("Written", false) (by simp), h2 ("Barred", true) (by simp), h2 ("Stood", false) (by simp), h2 ("Never", false) (by simp), h2 ("Bears", false) (by simp), h2 ("Breaks", false) (by simp), h2 ("Answer", true) (by simp)⟩
  obtain ⟨fdL, FL⟩ := c.d.def_ 48 (d := Hd.d_law) rfl
  have e := hfa.symm.trans (He.glo_ok X G (c.d.fact 84 (f := .glo "law") rfl))
  cases e
  obtain ⟨fdWi, FWi⟩ := c.d.def_ 16 (d := Hd.d_Written___init__) rfl
  obtain ⟨fdBi, FBi⟩ := c.d.def_ 18 (d := Hd.d_Barred___init__) rfl
  refine ⟨fdL, fun s v => FunD.bindsA (ps := ["_law_script"]) FL (fun _ _ _ _ _ _ us hl => match us, hl with | [_], _ => rfl) s [v] rfl, fun base _ _ => ?_⟩
  let T : W02.Txt K mg := txt X G c
  have q_is_row := cal_imp (W02.c_is_row (P := P) (w := w) (base := base) T D_is_row ) R2.p_is_row
  have q_is_letter := cal_imp (W02.c_is_letter (P := P) (w := w) (base := base) T D_is_letter ) R2.p_is_letter
  have q_width_of := cal_imp (W02.c_width_of (P := P) (w := w) (base := base) T D_width_of q_is_row q_is_letter) R2.p_width_of
  have q_check_tape := cal_imp (W02.c_check_tape (P := P) (w := w) (base := base) T D_check_tape q_is_row) R2.p_check_tape
  have q_check_text := cal_imp (W02.c_check_text (P := P) (w := w) (base := base) T D_check_text ) R2.p_check_text
  have q_goes_over := cal_imp (W02.c_goes_over (P := P) (w := w) (base := base) T D_goes_over ) R2.p_goes_over
  have q_cost_of := cal_imp (W02.c_cost_of (P := P) (w := w) (base := base) T D_cost_of ) R2.p_cost_of
  have q_rows_of := cal_imp (W02.c_rows_of (P := P) (w := w) (base := base) T D_rows_of ) R2.p_rows_of
  have q_above := cal_imp (W02.c_above (P := P) (w := w) (base := base) T D_above q_rows_of q_goes_over) R2.p_above
  have q_meaning := cal_imp (W02.c_meaning (P := P) (w := w) (base := base) T D_meaning ) R2.p_meaning
  have q_text_of := cal_imp (W02.c_text_of (P := P) (w := w) (base := base) T D_text_of q_meaning) R2.p_text_of
  have q_over := cal_imp (W02.c_over (P := P) (w := w) (base := base) T D_over q_goes_over) R2.p_over
  have q_taken := cal_imp (W02.c_taken (P := P) (w := w) (base := base) T D_taken q_cost_of) R2.p_taken
  have q_cheapest := cal_imp (W02.c_cheapest (P := P) (w := w) (base := base) T D_cheapest q_above q_meaning q_cost_of) R2.p_cheapest
  have q_are_tape := cal_imp (W02.c_are_tape (P := P) (w := w) (base := base) T D_are_tape q_width_of q_is_row) R2.p_are_tape
  have q_holds := cal_imp (W02.c_holds (P := P) (w := w) (base := base) T D_holds ) R2.p_holds
  have q_marks_of := cal_imp (W02.c_marks_of (P := P) (w := w) (base := base) T D_marks_of q_cheapest) R2.p_marks_of
  have q_heights_of := cal_imp (W02.c_heights_of (P := P) (w := w) (base := base) T D_heights_of q_cheapest) R2.p_heights_of
  have q_first_row := cal_imp (W02.c_first_row (P := P) (w := w) (base := base) T D_first_row q_above q_meaning q_cost_of) R2.p_first_row
  have q_tape_by := cal_imp (W02.c_tape_by (P := P) (w := w) (base := base) T D_tape_by q_cheapest q_first_row) R2.p_tape_by
  have q_check_all := cal_imp (W02.c_check_all (P := P) (w := w) (base := base) T D_check_all q_check_tape q_width_of q_check_text) R2.p_check_all
  have q__law_draw := cal_imp (W02.c__law_draw (P := P) (w := w) (base := base) T D__law_draw ) R2.p__law_draw
  have q__law_cell_at := cal_imp (W02.c__law_cell_at (P := P) (w := w) (base := base) T D__law_cell_at q__law_draw) R2.p__law_cell_at
  have q__law_digits := cal_imp (W02.c__law_digits (P := P) (w := w) (base := base) T D__law_digits q__law_cell_at q__law_draw) R2.p__law_digits
  have q__law_rows := cal_imp (W02.c__law_rows (P := P) (w := w) (base := base) T D__law_rows ) R2.p__law_rows
  have q__law_pool := cal_imp (W02.c__law_pool (P := P) (w := w) (base := base) T D__law_pool q__law_digits) R2.p__law_pool
  have q__law_reader := cal_imp (W02.c__law_reader (P := P) (w := w) (base := base) T D__law_reader q__law_digits q__law_rows) R2.p__law_reader
  have q__law_width := cal_imp (W02.c__law_width (P := P) (w := w) (base := base) T D__law_width ) R2.p__law_width
  have q__law_tape := cal_imp (W02.c__law_tape (P := P) (w := w) (base := base) T D__law_tape q__law_rows q__law_digits) R2.p__law_tape
  have q__law_text := cal_imp (W02.c__law_text (P := P) (w := w) (base := base) T D__law_text q__law_digits) R2.p__law_text
  have q__law_over := cal_imp (W02.c__law_over (P := P) (w := w) (base := base) T D__law_over ) R2.p__law_over
  have q__law_means := cal_imp (W02.c__law_means (P := P) (w := w) (base := base) T D__law_means ) R2.p__law_means
  have q__law_reads := cal_imp (W02.c__law_reads (P := P) (w := w) (base := base) T D__law_reads q__law_means) R2.p__law_reads
  have q__law_holes := cal_imp (W02.c__law_holes (P := P) (w := w) (base := base) T D__law_holes ) R2.p__law_holes
  have q__law_can := cal_imp (W02.c__law_can (P := P) (w := w) (base := base) T D__law_can q__law_over) R2.p__law_can
  have q__law_cost := cal_imp (W02.c__law_cost (P := P) (w := w) (base := base) T D__law_cost q__law_rows q__law_over q__law_means q__law_holes) R2.p__law_cost
  have q__law_fewest := cal_imp (W02.c__law_fewest (P := P) (w := w) (base := base) T D__law_fewest q__law_cost) R2.p__law_fewest
  have q__law_are_heights := cal_imp (W02.c__law_are_heights (P := P) (w := w) (base := base) T D__law_are_heights q__law_cost) R2.p__law_are_heights
  have q__law_are_marks := cal_imp (W02.c__law_are_marks (P := P) (w := w) (base := base) T D__law_are_marks q__law_cost) R2.p__law_are_marks
  have q_kW := cal_imp (W02.c__law_kinds (P := P) (w := w) (base := base) T D__law_kinds) (R2.p__law_kinds k_Written)
  have q_kB := cal_imp (W02.c__law_kinds (P := P) (w := w) (base := base) T D__law_kinds) (R2.p__law_kinds k_Barred)
  have q__law_whole := cal_imp (W02.c__law_whole (P := P) (w := w) (base := base) T D__law_whole ) R2.p__law_whole
  have m_Written := met_imp (W02.c_Written_shows (P := P) (w := w) (base := base) T M_Written q_are_tape q_over q_text_of q_holds q_cheapest q_taken) (R2.p_Written_shows cls_Written no_Written_tape no_Written_heights)
  have m_Barred := met_imp (W02.c_Barred_shows (P := P) (w := w) (base := base) T M_Barred q_cheapest) (R2.p_Barred_shows cls_Barred no_Barred_marks)
  have mB : C8.Mak P w K mg base 1 "Barred" T.c_Barred (spBi T.c_Barred) [] := ⟨_, fdBi, _, [], He.mkr_ok (c.d.fact 39 (f := .mkr "Barred") rfl), ok_Bi T cls_Barred no_Barred_marks FBi, He.glo_ok X G (c.d.fact 1 (f := .glo "Barred") rfl), FBi.bindsN (fun _ _ _ _ _ _ us hl => match us, hl with | [_, _], _ => rfl), .nil⟩
  have mW : C8.Mak P w K mg base 1 "Written" T.c_Written (spWi T.c_Written) [] := ⟨_, fdWi, _, [], He.mkr_ok (c.d.fact 38 (f := .mkr "Written") rfl), ok_Wi T cls_Written no_Written_tape no_Written_heights FWi, He.glo_ok X G (c.d.fact 0 (f := .glo "Written") rfl), FWi.bindsN (fun _ _ _ _ _ _ us hl => match us, hl with | [_, _, _], _ => rfl), .nil⟩
  have q_written : C8.Cal P w K mg base 5 "written" (spWr T.c_Written T.c_Barred) [] := by
    obtain ⟨f, fd, F, hm⟩ := D_written.ex
    exact ⟨f, fd, _, [], ok_Wr T q_marks_of q_heights_of q_tape_by mB mW F, hm, F.kp, F.bindsN (fun _ _ _ _ _ _ us hl => match us, hl with | [_, _, _], _ => rfl), .nil⟩
  have q_write : C8.Cal P w K mg base 6 "write" (spWr T.c_Written T.c_Barred) [] := by
    obtain ⟨f, fd, F, hm⟩ := D_write.ex
    exact ⟨f, fd, _, [], ok_Wt q_check_all q_written F, hm, F.kp, F.bindsN (fun _ _ _ _ _ _ us hl => match us, hl with | [_, _, _], _ => rfl), .nil⟩
  have q_writeD : C8.Cal P w K mg base 6 "write" (spD 3 (f_write T.c_Written T.c_Barred)) [] := by
    obtain ⟨a, fd, ps, ds, h1, h2⟩ := q_write.ex
    exact ⟨a, fd, ps, ds, h1.imp wr_imp, h2⟩
  have q_right : C8.Cal P w K mg base 10 "_law_write_right" (spD 3 f__law_write_right) [] := by
    obtain ⟨f, fd, F, hm⟩ := D__law_write_right.ex
    exact ⟨f, fd, _, [], ok_R T cls_Written cls_Barred no_Barred_marks no_Written_tape no_Written_heights q_write q__law_fewest q_kW q_kB m_Written m_Barred q__law_whole q__law_are_marks q__law_can q__law_reads q__law_holes q__law_are_heights F, hm, F.kp, F.bindsN (fun _ _ _ _ _ _ us hl => match us, hl with | [_, _, _], _ => rfl), .nil⟩
  exact ok_L T k_Barred.ins cls_Written cls_Barred no_Barred_marks no_Written_heights q__law_pool q__law_reader q__law_width q__law_digits q__law_tape q__law_text q__law_reads q_right q_writeD FL
end
end J2
set_option Elab.async false
set_option linter.all false
set_option maxRecDepth 100000
set_option maxHeartbeats 0
open PySem PySem.W PySem.Calls PyProof.Rows
theorem PySem.Challenge.cw_holetape_k02_whole_written_holds : PySem.Challenge.rw_holetape_k02_whole_written.Holds := by
  w_on; o_law
  refine HandSHeadRun.head_any (r := OpenLaw.row PySem.Challenge.rw_holetape_k02_whole_written) (q := view (OpenLaw.row PySem.Challenge.rw_holetape_k02_whole_written).prog [70]) (H := Hd.hk) (ob := Hd.ob) (M := 8000) (loose := Hd.ns) (d := HandSHeadRun.topDef (OpenLaw.row PySem.Challenge.rw_holetape_k02_whole_written).prog 70) (kwd := []) Hd.ob_eq
    (by kernel_rfl) (fun s => by kernel_rfl) Hd.run (by kernel_rfl) (by kernel_rfl) (by kernel_rfl) (by rfl) (by first | assumption | decide +kernel) (by decide +kernel) ⟨rfl, rfl, rfl, rfl, rfl, by decide +kernel⟩ ?hw ?hc
  case hw => w_witness2
  case hc =>
    refine L2.walk_ofE (l := PySem.Challenge.rw_holetape_k02_whole_written) (n := 63) (k := 11) (x := "_law_script") (CX := C8.CX0) rfl (by decide) (by kernel_rfl) ⟨rfl, by decide, by decide⟩ ?F (fun _ _ _ _ z => z)
    intro w mg fa h Y G hmg0
    obtain ⟨K, KX, c⟩ := Y
    have hmg : mg ("law" : PySem.Str) = some (.ref fa) := by
      have e : (HandSHeadRun.topDef (OpenLaw.row PySem.Challenge.rw_holetape_k02_whole_written).prog 70).name = ("law" : PySem.Str) := by kernel_rfl
      rw [← e]
      exact hmg0
    obtain ⟨fd, hb, hF⟩ := J2.facts (P := (PySem.Challenge.rw_holetape_k02_whole_written).prog) (w := w) KX G c hmg
    exact ⟨K, fd, H2.spL K, KX, hb, fun H a ns hl _ hS => ⟨a, ns, rfl, hS, by omega, fun _ => rfl⟩, hF⟩
