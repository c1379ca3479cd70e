import PyProof.Rows.All
import Wide.All
import OpenK.AllK
import Wide.FinOn
import HandS.ForMost
import HandS.Wide
import HandS.Flow
import HandS.Conv
import KE.DataEq
import KE.DataCmp
import KE.SortData
import HandS.TupAny
import HandS.Text
import PyProof.MaxThree
import HandS.Style
import HandS.Zip
import HandS.Walk
import KE.GoesNew
import HandS.Codes
import HandS.Defaults
import HandS.HeadEnd
import HandS.EndBits
import HandS.More
import KE.KStateDown
import HandS.WordsExc
import HandS.Head0
import HandS.Head1
import HandS.Head2
import HandS.HeadHook1
import HandS.HeadHook2
import PySem.Challenge.RW_wellstrewn_k15_branches_ways_rims
set_option Elab.async false
set_option linter.all false
set_option maxRecDepth 100000
set_option maxHeartbeats 0
/-! Pf0: pure data D, owned values OV, what they are in the hand layer's heap. -/
namespace Pf
open PySem PySem.Spec PyProof.Rows L2

inductive D where
  | non
  | bl (b : Bool)
  | int (i : Int)
  | str (s : Str)
  | tup (xs : List D)
  | lst (xs : List D)
  deriving Inhabited

mutual
def D.py : D → PyData
  | .non => .none
  | .bl b => .bool b
  | .int i => .int i
  | .str s => .str s
  | .tup xs => .tuple (D.pys xs)
  | .lst xs => .list (D.pys xs)
def D.pys : List D → List PyData
  | [] => []
  | x :: xs => D.py x :: D.pys xs
end
theorem D.pys_map : ∀ xs : List D, D.pys xs = xs.map D.py
  | [] => rfl
  | x :: xs => by rw [D.pys, D.pys_map xs]; rfl

/-- a value that one slot owns: frozen data, or a list that may be changed -/
inductive OV where
  | fz (d : D)
  | ls (xs : List OV)
  deriving Inhabited
mutual
def OV.er : OV → D
  | .fz d => d
  | .ls xs => .lst (OV.ers xs)
def OV.ers : List OV → List D
  | [] => []
  | x :: xs => OV.er x :: OV.ers xs
end
theorem OV.ers_map : ∀ xs : List OV, OV.ers xs = xs.map OV.er
  | [] => rfl
  | x :: xs => by rw [OV.ers, OV.ers_map xs]; rfl
theorem OV.ers_fz : ∀ ds : List D, OV.ers (ds.map OV.fz) = ds
  | [] => rfl
  | d :: ds => by rw [List.map_cons, OV.ers, OV.ers_fz ds]; rfl

/-- the i-th slot -/
abbrev T := List (Option OV)
def slotAt (τ : T) (i : Nat) : Option OV := (τ[i]?).join

/-- a list that is read: tracked, locked, or the module's own, its object known whole -/
def LsR (K : PySem.W.Frag) (F : Hp) (a : Addr) (vs : List V) : Prop :=
  Rd F a (.lst vs) ∨ ∃ its : List Value, K.lookup a = some { cls := .type "list", data := .seq its.toArray } ∧ its.length ≤ sizeLine ∧ Vals vs its
theorem LsR.of {K : PySem.W.Frag} {F : Hp} {a : Addr} {vs : List V} (h : F a = some (.lst vs)) : LsR K F a vs := .inl (.inl h)
theorem LsR.mono {K : PySem.W.Frag} {F F' : Hp} {a : Addr} {vs : List V} (s : Same F F') (h : LsR K F a vs) : LsR K F' a vs := by
  rcases h with (h | ⟨o, h⟩) | h
  · exact .inl (.inl (s _ _ h))
  · exact .inl (.inr ⟨o, s _ _ h⟩)
  · exact .inr h
theorem LsR.sql {K : PySem.W.Frag} {F : Hp} {a : Addr} {vs : List V} (h : LsR K F a vs) : SqL K F a vs := by
  rcases h with h | ⟨its, e, z, r⟩
  · exact .inl h
  · exact .inr ⟨_, its.toArray, _, e, rfl, rfl, rfl, by simpa using z, by simpa using r⟩
theorem LsR.exact {X : Cx} {pins : List (Addr × Obj)} {σ : L2.St} {H : Hp} {s : Shared} {a : Addr} {vs : List V} (I : Inv X pins σ H s) (h : LsR X.K H a vs) :
    vs.length ≤ sizeLine ∧ ∃ (its : List Value) (n : Nat), Vals vs its ∧ vs.length = its.length ∧ s.heap.get? a = some { cls := .type "list", data := .seq its.toArray n } := by
  rcases h with h | ⟨its, e, z, r⟩
  · obtain ⟨z, its, n, r, e⟩ := h.ok I.hok
    exact ⟨z, its, n, r, r.length, e⟩
  · exact ⟨by rw [r.length]; exact z, its, _, r, r.length, I.kIn a _ e⟩
mutual
def Rep (K : PySem.W.Frag) (F : Hp) : D → V → Prop
  | .non, v => v = .non
  | .bl b, v => v = .bl b
  | .int i, v => v = .int i
  | .str s, v => v = .str s
  | .tup xs, v => ∃ a vs, v = .ref a ∧ SqT K F a vs ∧ Reps K F xs vs
  | .lst xs, v => ∃ a vs, v = .ref a ∧ LsR K F a vs ∧ Reps K F xs vs
def Reps (K : PySem.W.Frag) (F : Hp) : List D → List V → Prop
  | [], vs => vs = []
  | x :: xs, vs => ∃ v ws, vs = v :: ws ∧ Rep K F x v ∧ Reps K F xs ws
end
mutual
def Own (K : PySem.W.Frag) (F H : Hp) : OV → V → List Addr → Prop
  | .fz d, v, as => as = [] ∧ Rep K F d v
  | .ls xs, v, as => ∃ a vs bs, v = .ref a ∧ as = a :: bs ∧ H a = some (.lst vs) ∧ a ∉ bs ∧ Owns K F H xs vs bs
def Owns (K : PySem.W.Frag) (F H : Hp) : List OV → List V → List Addr → Prop
  | [], vs, as => vs = [] ∧ as = []
  | x :: xs, vs, as => ∃ v ws bs cs, vs = v :: ws ∧ as = bs ++ cs ∧ Own K F H x v bs ∧ Owns K F H xs ws cs ∧ ∀ a ∈ bs, a ∉ cs
end

section
variable {K : PySem.W.Frag} {F F' H H' : Hp}
theorem sqt_mono {a : Addr} {vs : List V} (s : Same F F') (h : SqT K F a vs) : SqT K F' a vs := by
  rcases h with (h | ⟨o, h⟩) | h
  · exact .inl (.inl (s _ _ h))
  · exact .inl (.inr ⟨o, s _ _ h⟩)
  · exact .inr h
mutual
theorem Rep.mono (s : Same F F') : ∀ {d : D} {v : V}, Rep K F d v → Rep K F' d v
  | .non, _, h => by rw [Rep] at *; exact h
  | .bl _, _, h => by rw [Rep] at *; exact h
  | .int _, _, h => by rw [Rep] at *; exact h
  | .str _, _, h => by rw [Rep] at *; exact h
  | .tup xs, v, h => by
    rw [Rep] at *
    obtain ⟨a, vs, e, q, r⟩ := h
    exact ⟨a, vs, e, sqt_mono s q, Reps.mono s r⟩
  | .lst xs, v, h => by
    rw [Rep] at *
    obtain ⟨a, vs, e, q, r⟩ := h
    exact ⟨a, vs, e, q.mono s, Reps.mono s r⟩
theorem Reps.mono (s : Same F F') : ∀ {ds : List D} {vs : List V}, Reps K F ds vs → Reps K F' ds vs
  | [], _, h => by rw [Reps] at *; exact h
  | x :: xs, vs, h => by
    rw [Reps] at *
    obtain ⟨v, ws, e, r, rs⟩ := h
    exact ⟨v, ws, e, Rep.mono s r, Reps.mono s rs⟩
end
theorem Reps.length : ∀ {ds : List D} {vs : List V}, Reps K F ds vs → ds.length = vs.length
  | [], _, h => by rw [Reps] at h; rw [h]; rfl
  | x :: xs, vs, h => by
    rw [Reps] at h
    obtain ⟨v, ws, rfl, _, rs⟩ := h
    rw [List.length_cons, List.length_cons, Reps.length rs]
theorem Reps.get : ∀ {ds : List D} {vs : List V} {i : Nat} {d : D}, Reps K F ds vs → ds[i]? = some d → ∃ v, vs[i]? = some v ∧ Rep K F d v
  | [], _, _, _, _, e => by simp at e
  | x :: xs, vs, 0, d, h, e => by
    rw [Reps] at h
    obtain ⟨v, ws, rfl, r, _⟩ := h
    simp at e; subst e
    exact ⟨v, rfl, r⟩
  | x :: xs, vs, i + 1, d, h, e => by
    rw [Reps] at h
    obtain ⟨v, ws, rfl, _, rs⟩ := h
    obtain ⟨u, e1, r⟩ := Reps.get (i := i) rs (by simpa using e)
    exact ⟨u, by simpa using e1, r⟩
theorem Reps.nil : Reps K F [] [] := by rw [Reps]
theorem Reps.cons {d : D} {v : V} {ds : List D} {vs : List V} (r : Rep K F d v) (rs : Reps K F ds vs) : Reps K F (d :: ds) (v :: vs) := by
  rw [Reps]; exact ⟨v, vs, rfl, r, rs⟩
theorem Reps.append : ∀ {ds es : List D} {vs ws : List V}, Reps K F ds vs → Reps K F es ws → Reps K F (ds ++ es) (vs ++ ws)
  | [], _, _, _, h, k => by rw [Reps] at h; subst h; exact k
  | x :: xs, es, vs, ws, h, k => by
    rw [Reps] at h
    obtain ⟨v, us, rfl, r, rs⟩ := h
    exact Reps.cons r (Reps.append rs k)
theorem Reps.take : ∀ {ds : List D} {vs : List V} (n : Nat), Reps K F ds vs → Reps K F (ds.take n) (vs.take n)
  | _, _, 0, _ => by simp only [List.take_zero]; exact Reps.nil
  | [], _, _ + 1, h => by rw [Reps] at h; subst h; exact Reps.nil
  | x :: xs, vs, n + 1, h => by
    rw [Reps] at h
    obtain ⟨v, us, rfl, r, rs⟩ := h
    exact Reps.cons r (Reps.take n rs)
theorem Reps.drop : ∀ {ds : List D} {vs : List V} (n : Nat), Reps K F ds vs → Reps K F (ds.drop n) (vs.drop n)
  | _, _, 0, h => h
  | [], _, _ + 1, h => by rw [Reps] at h; subst h; exact Reps.nil
  | x :: xs, vs, n + 1, h => by
    rw [Reps] at h
    obtain ⟨v, us, rfl, r, rs⟩ := h
    exact Reps.drop n rs
theorem Reps.reverse : ∀ {ds : List D} {vs : List V}, Reps K F ds vs → Reps K F ds.reverse vs.reverse
  | [], _, h => by rw [Reps] at h; subst h; exact Reps.nil
  | x :: xs, vs, h => by
    rw [Reps] at h
    obtain ⟨v, us, rfl, r, rs⟩ := h
    rw [List.reverse_cons, List.reverse_cons]
    exact Reps.append (Reps.reverse rs) (Reps.cons r Reps.nil)
theorem Reps.set : ∀ {ds : List D} {vs : List V} {d : D} {v : V} (i : Nat), Reps K F ds vs → Rep K F d v → Reps K F (ds.set i d) (vs.set i v)
  | [], _, _, _, i, h, _ => by rw [Reps] at h; subst h; exact Reps.nil
  | x :: xs, vs, d, v, 0, h, q => by
    rw [Reps] at h
    obtain ⟨w, us, rfl, r, rs⟩ := h
    exact Reps.cons q rs
  | x :: xs, vs, d, v, i + 1, h, q => by
    rw [Reps] at h
    obtain ⟨w, us, rfl, r, rs⟩ := h
    exact Reps.cons r (Reps.set i rs q)

/-! owned values stand: the frozen part grows, the owned addresses keep their objects -/
mutual
theorem Own.keep (s : Same F F') : ∀ {o : OV} {v : V} {as : List Addr}, (∀ a ∈ as, ∀ u, H a = some u → H' a = some u) → Own K F H o v as → Own K F' H' o v as
  | .fz d, v, as, _, h => by
    rw [Own] at *
    exact ⟨h.1, h.2.mono s⟩
  | .ls xs, v, as, k, h => by
    rw [Own] at *
    obtain ⟨a, vs, bs, e, e2, q, n, r⟩ := h
    subst e2
    exact ⟨a, vs, bs, e, rfl, k a List.mem_cons_self _ q, n, Owns.keep s (fun b hb => k b (List.mem_cons_of_mem _ hb)) r⟩
theorem Owns.keep (s : Same F F') : ∀ {os : List OV} {vs : List V} {as : List Addr}, (∀ a ∈ as, ∀ u, H a = some u → H' a = some u) → Owns K F H os vs as → Owns K F' H' os vs as
  | [], _, _, _, h => by rw [Owns] at *; exact h
  | x :: xs, vs, as, k, h => by
    rw [Owns] at *
    obtain ⟨v, ws, bs, cs, e, e2, r, rs, n⟩ := h
    subst e2
    exact ⟨v, ws, bs, cs, e, rfl, Own.keep s (fun b hb => k b (List.mem_append_left _ hb)) r, Owns.keep s (fun b hb => k b (List.mem_append_right _ hb)) rs, n⟩
end
mutual
theorem Own.there : ∀ {o : OV} {v : V} {as : List Addr}, Own K F H o v as → ∀ a ∈ as, ∃ vs, H a = some (.lst vs)
  | .fz d, v, as, h, a, ha => by
    rw [Own] at h
    rw [h.1] at ha
    exact absurd ha (by simp)
  | .ls xs, v, as, h, a, ha => by
    rw [Own] at h
    obtain ⟨b, vs, bs, e, e2, q, n, r⟩ := h
    subst e2
    rcases List.mem_cons.mp ha with z | z
    · subst z; exact ⟨vs, q⟩
    · exact Owns.there r a z
theorem Owns.there : ∀ {os : List OV} {vs : List V} {as : List Addr}, Owns K F H os vs as → ∀ a ∈ as, ∃ vs, H a = some (.lst vs)
  | [], _, _, h, a, ha => by
    rw [Owns] at h
    rw [h.2] at ha
    exact absurd ha (by simp)
  | x :: xs, vs, as, h, a, ha => by
    rw [Owns] at h
    obtain ⟨v, ws, bs, cs, e, e2, r, rs, n⟩ := h
    subst e2
    rcases List.mem_append.mp ha with z | z
    · exact Own.there r a z
    · exact Owns.there rs a z
end
/-- frozen: the owned addresses join the frozen part -/
def frz (F H : Hp) (as : List Addr) : Hp := fun b => if b ∈ as then H b else F b
theorem frz_same {as : List Addr} (s : Same F H) (h : ∀ a ∈ as, F a = none) : Same F (frz F H as) := fun b o e => by
  unfold frz
  rw [if_neg fun z => by rw [h b z] at e; cases e]
  exact e
theorem frz_sub {as : List Addr} (s : Same F H) : Same (frz F H as) H := fun b o e => by
  unfold frz at e
  split at e
  · exact e
  · exact s b o e
mutual
theorem Own.frozen (s : Same F H) {ss : List Addr} (h0 : ∀ a ∈ ss, F a = none) : ∀ {o : OV} {v : V} {as : List Addr}, (∀ a ∈ as, a ∈ ss) → Own K F H o v as → Rep K (frz F H ss) o.er v
  | .fz d, v, as, _, h => by
    rw [Own] at h
    exact h.2.mono (frz_same s h0)
  | .ls xs, v, as, k, h => by
    rw [Own] at h
    obtain ⟨a, vs, bs, e, e2, q, n, r⟩ := h
    subst e2
    rw [OV.er, Rep]
    refine ⟨a, vs, e, .inl (.inl ?_), Owns.frozen s h0 (fun b hb => k b (List.mem_cons_of_mem _ hb)) r⟩
    unfold frz
    rw [if_pos (k a List.mem_cons_self)]
    exact q
theorem Owns.frozen (s : Same F H) {ss : List Addr} (h0 : ∀ a ∈ ss, F a = none) : ∀ {os : List OV} {vs : List V} {as : List Addr}, (∀ a ∈ as, a ∈ ss) → Owns K F H os vs as → Reps K (frz F H ss) (OV.ers os) vs
  | [], _, _, _, h => by
    rw [Owns] at h
    rw [OV.ers, h.1]
    exact Reps.nil
  | x :: xs, vs, as, k, h => by
    rw [Owns] at h
    obtain ⟨v, ws, bs, cs, e, e2, r, rs, n⟩ := h
    subst e e2
    rw [OV.ers]
    exact Reps.cons (Own.frozen s h0 (fun b hb => k b (List.mem_append_left _ hb)) r) (Owns.frozen s h0 (fun b hb => k b (List.mem_append_right _ hb)) rs)
end
/-- a list of frozen items -/
theorem Owns.of_reps : ∀ {ds : List D} {vs : List V}, Reps K F ds vs → Owns K F H (ds.map OV.fz) vs []
  | [], _, h => by rw [Reps] at h; subst h; rw [List.map_nil, Owns]; exact ⟨rfl, rfl⟩
  | x :: xs, vs, h => by
    rw [Reps] at h
    obtain ⟨v, us, rfl, r, rs⟩ := h
    rw [List.map_cons, Owns]
    refine ⟨v, us, [], [], rfl, rfl, ?_, Owns.of_reps rs, fun _ z => nomatch z⟩
    rw [Own]; exact ⟨rfl, r⟩
theorem Owns.to_reps : ∀ {ds : List D} {vs : List V} {as : List Addr}, Owns K F H (ds.map OV.fz) vs as → Reps K F ds vs ∧ as = []
  | [], _, _, h => by rw [List.map_nil, Owns] at h; rw [h.1]; exact ⟨Reps.nil, h.2⟩
  | x :: xs, vs, as, h => by
    rw [List.map_cons, Owns] at h
    obtain ⟨v, ws, bs, cs, e, e2, r, rs, n⟩ := h
    subst e e2
    rw [Own] at r
    obtain ⟨q1, q2⟩ := Owns.to_reps rs
    rw [r.1, q2]
    exact ⟨Reps.cons r.2 q1, rfl⟩
theorem Own.fz_iff {d : D} {v : V} {as : List Addr} : Own K F H (.fz d) v as ↔ as = [] ∧ Rep K F d v := by rw [Own]
theorem Own.of_rep {d : D} {v : V} (r : Rep K F d v) : Own K F H (.fz d) v [] := by rw [Own]; exact ⟨rfl, r⟩
end

/-! ### what a def runs over -/
/-- fixed through a def's body: the frozen part and the heap at its entry, what it was lent (an address: the slot it belongs to), the slots that hold it; pend: new values that wait while others are worked out -/
structure Fx where
  F0 : Hp
  H0 : Hp
  io : Addr → Option Nat
  ios : List (Nat × V)
  pend : List (OV × V × List Addr)

structure Rel (K : PySem.W.Frag) (C : Fx) (F : Hp) (fp : Nat → List Addr) (τ : T) (σ : L2.St) (H : Hp) : Prop where
  sub : Same F H
  old : Same C.F0 F
  frame : ∀ a o, C.H0 a = some o → C.io a = none → H a = some o
  new : ∀ a o, F a = some o → C.F0 a ≠ none ∨ C.H0 a = none
  len : τ.length = σ.length
  slot : ∀ i o, slotAt τ i = some o → ∃ v, σ[i]? = some (some v) ∧ Own K F H o v (fp i)
  apart : ∀ i j a, a ∈ fp i → a ∈ fp j → i = j
  own : ∀ i a, a ∈ fp i → F a = none ∧ (C.H0 a = none ∨ C.io a = some i)
  lay : ∀ i a, a ∈ fp i → H a ≠ none
  stay : ∀ a, H a = none → C.H0 a = none
  lent : ∀ p ∈ C.ios, σ[p.1]? = some (some p.2)
  ioc : ∀ a i, C.io a = some i → i ∈ C.ios.map (·.1)
  pend : ∀ t ∈ C.pend, Own K F H t.1 t.2.1 t.2.2 ∧ ∀ a ∈ t.2.2, F a = none ∧ H a ≠ none ∧ ∀ i, a ∉ fp i

/-- a new value that no slot holds -/
structure Tmp (K : PySem.W.Frag) (C : Fx) (F : Hp) (fp : Nat → List Addr) (H : Hp) (r : OV) (v : V) (as : List Addr) : Prop where
  own : Own K F H r v as
  apart : ∀ a ∈ as, ∀ i, a ∉ fp i
  new : ∀ a ∈ as, F a = none ∧ C.H0 a = none
  free : ∀ a ∈ as, ∀ t ∈ C.pend, a ∉ t.2.2
/-- what an expression hands back: a new value, or a slot's own -/
inductive Pre where
  | val (r : OV)
  | sl (i : Nat)
def PreR (K : PySem.W.Frag) (C : Fx) (F : Hp) (fp : Nat → List Addr) (σ : L2.St) (H : Hp) : Pre → V → Prop
  | .val r, v => ∃ as, Tmp K C F fp H r v as
  | .sl i, v => σ[i]? = some (some v)

section
variable {K : PySem.W.Frag} {C : Fx} {F : Hp} {fp : Nat → List Addr} {τ : T} {σ : L2.St} {H : Hp}
theorem frz_out {F H : Hp} {as : List Addr} {a : Addr} (h : a ∉ as) : frz F H as a = F a := by
  unfold frz
  rw [if_neg h]
/-- a new value is frozen -/
theorem Rel.freeze {r : OV} {v : V} {as : List Addr} (R : Rel K C F fp τ σ H) (t : Tmp K C F fp H r v as) : ∃ F', Rel K C F' fp τ σ H ∧ Same F F' ∧ Rep K F' r.er v := by
  have h0 : ∀ a ∈ as, F a = none := fun a ha => (t.new a ha).1
  have s1 := frz_same R.sub h0
  refine ⟨frz F H as, ⟨frz_sub R.sub, fun b o e => s1 b o (R.old b o e), R.frame, fun a o e => ?_, R.len, fun i o e => ?_, R.apart, fun i a ha => ⟨?_, (R.own i a ha).2⟩, R.lay, R.stay, R.lent, R.ioc, fun p hp => ?_⟩, s1, Own.frozen R.sub h0 (fun _ h => h) t.own⟩
  · unfold frz at e
    split at e
    · exact .inr (t.new a ‹_›).2
    · exact R.new a o e
  · obtain ⟨w, e1, q⟩ := R.slot i o e
    exact ⟨w, e1, q.keep s1 fun _ _ _ h => h⟩
  · rw [frz_out fun z => t.apart a z i ha]
    exact (R.own i a ha).1
  · obtain ⟨w, q⟩ := R.pend p hp
    exact ⟨w.keep s1 fun _ _ _ h => h, fun a ha => ⟨by rw [frz_out fun z => t.free a z p hp ha]; exact (q a ha).1, (q a ha).2⟩⟩
theorem slotAt_set_same {τ : T} {i : Nat} {o : Option OV} (h : i < τ.length) : slotAt (τ.set i o) i = o := by
  unfold slotAt
  rw [List.getElem?_set_self h]
  rfl
theorem slotAt_set_ne {τ : T} {i j : Nat} {o : Option OV} (h : i ≠ j) : slotAt (τ.set i o) j = slotAt τ j := by
  unfold slotAt
  rw [List.getElem?_set_ne h]
theorem slotAt_lt {τ : T} {i : Nat} {o : OV} (h : slotAt τ i = some o) : i < τ.length := by
  unfold slotAt at h
  by_cases z : i < τ.length
  · exact z
  · rw [List.getElem?_eq_none (by omega)] at h; cases h
/-- fp, the i-th otherwise -/
def fpSet (fp : Nat → List Addr) (i : Nat) (as : List Addr) : Nat → List Addr := fun j => if j = i then as else fp j
theorem fpSet_same {fp : Nat → List Addr} {i : Nat} {as : List Addr} : fpSet fp i as i = as := if_pos rfl
theorem fpSet_ne {fp : Nat → List Addr} {i j : Nat} {as : List Addr} (h : j ≠ i) : fpSet fp i as j = fp j := if_neg h
/-- a slot's own value is frozen where it stands -/
theorem Rel.freezeSlot {i : Nat} {o : OV} (R : Rel K C F fp τ σ H) (e : slotAt τ i = some o) (hi : i ∉ C.ios.map (·.1)) :
    ∃ F' fp' v, Rel K C F' fp' (τ.set i (some (.fz o.er))) σ H ∧ Same F F' ∧ σ[i]? = some (some v) ∧ Rep K F' o.er v := by
  obtain ⟨v, ev, w⟩ := R.slot i o e
  have h0 : ∀ a ∈ fp i, F a = none := fun a ha => (R.own i a ha).1
  have s1 := frz_same R.sub h0
  have rp := Own.frozen R.sub h0 (fun _ h => h) w
  have il := slotAt_lt e
  have out : ∀ {j : Nat} {a : Addr}, a ∈ fpSet fp i [] j → j ≠ i ∧ a ∈ fp j := fun {j a} h => by
    by_cases hj : j = i
    · subst hj; rw [fpSet_same] at h; exact absurd h (by simp)
    · rw [fpSet_ne hj] at h; exact ⟨hj, h⟩
  refine ⟨frz F H (fp i), fpSet fp i [], v, ⟨frz_sub R.sub, fun b o e => s1 b o (R.old b o e), R.frame, fun a u eu => ?_, by rw [List.length_set]; exact R.len, fun j u eu => ?_, fun j k a h1 h2 => R.apart j k a (out h1).2 (out h2).2, fun j a ha => ?_, fun j a ha => R.lay j a (out ha).2, R.stay, R.lent, R.ioc, fun p hp => ?_⟩, s1, ev, rp⟩
  · unfold frz at eu
    split at eu
    · rename_i ha
      rcases (R.own i a ha).2 with z | z
      · exact .inr z
      · exact absurd (R.ioc a i z) hi
    · exact R.new a u eu
  · by_cases hj : j = i
    · subst hj
      rw [slotAt_set_same il] at eu
      cases eu
      exact ⟨v, ev, by rw [fpSet_same]; exact Own.of_rep rp⟩
    · rw [slotAt_set_ne (Ne.symm hj)] at eu
      obtain ⟨x, e1, q⟩ := R.slot j u eu
      rw [fpSet_ne hj]
      exact ⟨x, e1, q.keep s1 fun _ _ _ h => h⟩
  · obtain ⟨hj, ha⟩ := out ha
    refine ⟨?_, (R.own j a ha).2⟩
    rw [frz_out fun z => hj (R.apart j i a ha z)]
    exact (R.own j a ha).1
  · obtain ⟨w, q⟩ := R.pend p hp
    exact ⟨w.keep s1 fun _ _ _ h => h, fun a ha => ⟨by rw [frz_out fun z => (q a ha).2.2 i z]; exact (q a ha).1, (q a ha).2.1, fun j z => (q a ha).2.2 j (out z).2⟩⟩
end

/-- a step that lays new things only -/
structure Grow (K : PySem.W.Frag) (F H : Hp) (r : OV) (v : V) (F' H' : Hp) : Prop where
  heap : Same H H'
  frozen : Same F F'
  sub : Same F' H'
  new : ∀ a o, F' a = some o → F a = some o ∨ H a = none
  own : ∃ as, Own K F' H' r v as ∧ ∀ a ∈ as, H a = none ∧ F' a = none
section
variable {K : PySem.W.Frag} {C : Fx} {F F' : Hp} {fp : Nat → List Addr} {τ : T} {σ : L2.St} {H H' : Hp} {r : OV} {v : V}
/-- the slots' relation over a grown heap -/
theorem Rel.grow (R : Rel K C F fp τ σ H) (heap : Same H H') (frozen : Same F F') (sub : Same F' H') (new : ∀ a o, F' a = some o → F a = some o ∨ H a = none) : Rel K C F' fp τ σ H' := by
  have out : ∀ a, F a = none → H a ≠ none → F' a = none := fun a h1 h2 => by
    cases e : F' a with
    | none => rfl
    | some o =>
      rcases new a o e with z | z
      · rw [h1] at z; cases z
      · exact absurd z h2
  refine ⟨sub, fun a o e => frozen a o (R.old a o e), fun a o e n => heap a o (R.frame a o e n), fun a o e => ?_, R.len, fun i o e => ?_, R.apart, fun i a h => ⟨out a (R.own i a h).1 (R.lay i a h), (R.own i a h).2⟩, fun i a h z => R.lay i a h (heap.free z), fun a z => R.stay a (heap.free z), R.lent, R.ioc, fun p hp => ?_⟩
  · rcases new a o e with z | z
    · exact R.new a o z
    · exact .inr (R.stay a z)
  · obtain ⟨x, e1, q⟩ := R.slot i o e
    exact ⟨x, e1, q.keep frozen fun b _ u hu => heap b u hu⟩
  · obtain ⟨w, q⟩ := R.pend p hp
    exact ⟨w.keep frozen fun b _ u hu => heap b u hu, fun a ha => ⟨out a (q a ha).1 (q a ha).2.1, fun z => (q a ha).2.1 (heap.free z), (q a ha).2.2⟩⟩
theorem Grow.rel (g : Grow K F H r v F' H') (R : Rel K C F fp τ σ H) : Rel K C F' fp τ σ H' ∧ ∃ as, Tmp K C F' fp H' r v as := by
  obtain ⟨as, w, ha⟩ := g.own
  exact ⟨R.grow g.heap g.frozen g.sub g.new, as, ⟨w, fun a h i z => R.lay i a z (ha a h).1, fun a h => ⟨(ha a h).2, R.stay a (ha a h).1⟩, fun a h p hp z => ((R.pend p hp).2 a z).2.1 (ha a h).1⟩⟩
/-- nothing is laid -/
theorem Grow.same {d : D} (s : Same F H) (q : Rep K F d v) : Grow K F H (.fz d) v F H :=
  ⟨Same.refl _, Same.refl _, s, fun _ _ e => .inl e, [], Own.of_rep q, fun _ z => nomatch z⟩
theorem same_new {H : Hp} {p : Addr} {o : HO} (h : H p = none) : Same H (upd H p o) := fun b x e => by
  rw [upd_ne (ne_of_none e h)]
  exact e
theorem same_upd2 {F H : Hp} {p : Addr} {o : HO} (s : Same F H) : Same (upd F p o) (upd H p o) := fun b x e => by
  by_cases hb : b = p
  · subst hb; rw [upd_same] at *; exact e
  · rw [upd_ne hb] at *; exact s b x e
theorem same_updF {F H : Hp} {p : Addr} {o : HO} (s : Same F H) (h : F p = none) : Same F (upd H p o) := fun b x e => by
  rw [upd_ne (ne_of_none e h)]
  exact s b x e
/-- a new tuple -/
theorem Grow.tup {p : Addr} {ds : List D} {vs : List V} (s : Same F H) (n : H p = none) (q : Reps K F ds vs) : Grow K F H (.fz (.tup ds)) (.ref p) (upd F p (.tup vs)) (upd H p (.tup vs)) := by
  have nF : F p = none := s.free n
  refine ⟨same_new n, same_new nF, same_upd2 s, fun a o e => ?_, [], Own.of_rep ?_, fun _ z => nomatch z⟩
  · by_cases ha : a = p
    · subst ha; exact .inr n
    · rw [upd_ne ha] at e; exact .inl e
  · rw [Rep]
    exact ⟨p, vs, rfl, .inl (.inl upd_same), q.mono (same_new nF)⟩
/-- a new list -/
theorem Grow.lst {p : Addr} {ds : List D} {vs : List V} (s : Same F H) (n : H p = none) (q : Reps K F ds vs) : Grow K F H (.ls (ds.map OV.fz)) (.ref p) F (upd H p (.lst vs)) := by
  have nF : F p = none := s.free n
  refine ⟨same_new n, Same.refl _, same_updF s nF, fun a o e => .inl e, [p], ?_, fun a h => ?_⟩
  · rw [Own]
    exact ⟨p, vs, [], rfl, rfl, upd_same, by simp, Owns.of_reps q⟩
  · have : a = p := by simpa using h
    subst this
    exact ⟨n, nF⟩
end
/-- a value that is looked at where it stands -/
def View (K : PySem.W.Frag) (F H : Hp) (o : OV) (v : V) : Prop := ∃ as, Own K F H o v as

/-! ### reading data -/
section
variable {X : Cx} {pins : List (Addr × Obj)} {σ : L2.St} {F H : Hp} {s : Shared}
mutual
theorem Rep.reads (I : Inv X pins σ H s) (sm : Same F H) : ∀ {d : D} {v : V} {u : Value}, Rep X.K F d v → RelV v u → ∃ as, Reads s.heap u d.py as
  | .non, v, u, h, r => by
    rw [Rep] at h; subst h
    cases r
    exact ⟨_, .none⟩
  | .bl b, v, u, h, r => by
    rw [Rep] at h; subst h
    cases r
    exact ⟨_, .bool b⟩
  | .int i, v, u, h, r => by
    rw [Rep] at h; subst h
    obtain ⟨t, rfl⟩ := r
    exact ⟨_, .int i t⟩
  | .str x, v, u, h, r => by
    rw [Rep] at h; subst h
    obtain ⟨t, rfl⟩ := r
    exact ⟨_, .str x t⟩
  | .tup xs, v, u, h, r => by
    rw [Rep] at h
    obtain ⟨a, vs, rfl, q, rs⟩ := h
    cases r
    obtain ⟨its, rv, ⟨o, e1, e2, n, e3⟩, _⟩ := I.tuple (sqt_mono sm q)
    obtain ⟨as, w⟩ := Reps.reads I sm rs rv
    exact ⟨_, .tuple e1 e2 e3 (by simpa using w)⟩
  | .lst xs, v, u, h, r => by
    rw [Rep] at h
    obtain ⟨a, vs, rfl, q, rs⟩ := h
    cases r
    obtain ⟨its, rv, ⟨o, n, e1, e2, _, e3⟩, _⟩ := I.list (Same.seq sm q.sql)
    obtain ⟨as, w⟩ := Reps.reads I sm rs rv
    exact ⟨_, .list e1 e2 e3 (by simpa using w)⟩
theorem Reps.reads (I : Inv X pins σ H s) (sm : Same F H) : ∀ {ds : List D} {vs : List V} {us : List Value}, Reps X.K F ds vs → Vals vs us → ∃ as, ReadsAll s.heap us (D.pys ds) as
  | [], vs, us, h, r => by
    rw [Reps] at h; subst h
    cases r
    exact ⟨_, .nil⟩
  | x :: xs, vs, us, h, r => by
    rw [Reps] at h
    obtain ⟨v, ws, rfl, q, qs⟩ := h
    cases r with
    | cons r rr =>
      obtain ⟨as, w⟩ := Rep.reads I sm q r
      obtain ⟨bs, ws⟩ := Reps.reads I sm qs rr
      exact ⟨_, .cons w ws⟩
end
mutual
theorem Own.reads (I : Inv X pins σ H s) (sm : Same F H) : ∀ {o : OV} {v : V} {u : Value} {ss : List Addr}, Own X.K F H o v ss → RelV v u → ∃ as, Reads s.heap u o.er.py as
  | .fz d, v, u, ss, h, r => by
    rw [Own] at h
    exact h.2.reads I sm r
  | .ls xs, v, u, ss, h, r => by
    rw [Own] at h
    obtain ⟨a, vs, bs, rfl, e2, q, n, w⟩ := h
    cases r
    obtain ⟨its, rv, ⟨o, n, e1, e2, _, e3⟩, _⟩ := I.list (SqL.of q)
    obtain ⟨as, w⟩ := Owns.reads I sm w rv
    exact ⟨_, .list e1 e2 e3 (by simpa using w)⟩
theorem Owns.reads (I : Inv X pins σ H s) (sm : Same F H) : ∀ {os : List OV} {vs : List V} {us : List Value} {ss : List Addr}, Owns X.K F H os vs ss → Vals vs us → ∃ as, ReadsAll s.heap us (D.pys (OV.ers os)) as
  | [], vs, us, ss, h, r => by
    rw [Owns] at h
    rw [h.1] at r
    cases r
    exact ⟨_, .nil⟩
  | x :: xs, vs, us, ss, h, r => by
    rw [Owns] at h
    obtain ⟨v, ws, bs, cs, rfl, e2, q, qs, n⟩ := h
    cases r with
    | cons r rr =>
      obtain ⟨as, w⟩ := Own.reads I sm q r
      obtain ⟨bs, ws⟩ := Owns.reads I sm qs rr
      exact ⟨_, .cons w ws⟩
end
end
end Pf

/-! Pf1: what is said of an expression, of a test, of a block; slots, constants, operators. -/
namespace Pf
open PySem PySem.Spec PyProof.Rows L2

inductive Res (α : Type) where
  | ok (a : α)
  | bad
def Res.bind {α β : Type} : Res α → (α → Res β) → Res β
  | .ok a, f => f a
  | .bad, _ => .bad
@[simp] theorem Res.ok_bind {α β : Type} (a : α) (f : α → Res β) : (Res.ok a).bind f = f a := rfl
@[simp] theorem Res.bad_bind {α β : Type} (f : α → Res β) : (Res.bad : Res α).bind f = .bad := rfl
theorem Res.bind_ok {α β : Type} {x : Res α} {f : α → Res β} {b : β} (h : x.bind f = .ok b) : ∃ a, x = .ok a ∧ f a = .ok b := by
  cases x with
  | ok a => exact ⟨a, rfl, h⟩
  | bad => cases h
def Res.of {α : Type} : Option α → Res α
  | some a => .ok a
  | none => .bad
@[simp] theorem Res.of_some {α : Type} (a : α) : Res.of (some a) = .ok a := rfl
@[simp] theorem Res.of_none {α : Type} : Res.of (none : Option α) = .bad := rfl
theorem Res.of_ok {α : Type} {x : Option α} {a : α} (h : Res.of x = .ok a) : x = some a := by
  cases x with
  | some b => cases h; rfl
  | none => cases h

abbrev FP := T → Res (Pre × T)
/-- an expression's reading by a function f of the slots -/
def rdP (K : PySem.W.Frag) (io : List Nat) (f : FP) : TE := fun σ H Q => ∃ C F fp τ p τ', C.ios.map (·.1) = io ∧ Rel K C F fp τ σ H ∧ f τ = .ok (p, τ') ∧
  ∀ F' fp' H' v, Rel K C F' fp' τ' σ H' → Same F F' → PreR K C F' fp' σ H' p v → Q v H'
def XP (X : Cx) (io : List Nat) (e : Expr) (f : FP) : Prop := PE X e (rdP X.K io f)
/-- a test's -/
def rdT (K : PySem.W.Frag) (io : List Nat) (f : T → Res (Bool × T)) : TT := fun σ H Q => ∃ C F fp τ b τ', C.ios.map (·.1) = io ∧ Rel K C F fp τ σ H ∧ f τ = .ok (b, τ') ∧
  ∀ F' fp' H', Rel K C F' fp' τ' σ H' → Same F F' → Q b H'
def XT (X : Cx) (io : List Nat) (e : Expr) (f : T → Res (Bool × T)) : Prop := PT X e (rdT X.K io f)
def XW (X : Cx) (io : List Nat) (e : Expr) (f : T → Res (Bool × T)) : Prop := PW X e (rdT X.K io f)

/-- an operand that is kept while others are worked out: data, or a slot -/
def OpdR (K : PySem.W.Frag) (F : Hp) (σ : L2.St) : Pre → V → Prop
  | .val r, v => ∃ d, r = .fz d ∧ Rep K F d v
  | .sl i, v => σ[i]? = some (some v)
theorem OpdR.mono {K : PySem.W.Frag} {F F' : Hp} {σ : L2.St} {p : Pre} {v : V} (s : Same F F') (h : OpdR K F σ p v) : OpdR K F' σ p v := by
  cases p with
  | val r => obtain ⟨d, e, q⟩ := h; exact ⟨d, e, q.mono s⟩
  | sl i => exact h
/-- as an operand; a new list is frozen -/
def opd : Pre → Pre
  | .val r => .val (.fz r.er)
  | .sl i => .sl i
/-- what an operand is at last -/
def vw (τ : T) : Pre → Option OV
  | .val r => some r
  | .sl i => slotAt τ i
/-- as data: what a slot owns is frozen -/
def frzSlot (io : List Nat) (i : Nat) (τ : T) : Option OV → Res (D × T)
  | some (.fz d) => .ok (d, τ)
  | some (.ls xs) => if i ∈ io then .bad else .ok ((OV.ls xs).er, τ.set i (some (.fz (OV.ls xs).er)))
  | none => .bad
def settle (io : List Nat) (p : Pre) (τ : T) : Res (D × T) := match p with
  | .val r => .ok (r.er, τ)
  | .sl i => frzSlot io i τ (slotAt τ i)

section
variable {K : PySem.W.Frag} {C : Fx} {F : Hp} {fp : Nat → List Addr} {τ : T} {σ : L2.St} {H : Hp}
theorem Rel.opd {p : Pre} {v : V} (R : Rel K C F fp τ σ H) (h : PreR K C F fp σ H p v) : ∃ F', Rel K C F' fp τ σ H ∧ Same F F' ∧ OpdR K F' σ (Pf.opd p) v := by
  cases p with
  | val r =>
    obtain ⟨as, t⟩ := h
    obtain ⟨F', R', s, q⟩ := R.freeze t
    exact ⟨F', R', s, _, rfl, q⟩
  | sl i => exact ⟨F, R, Same.refl _, h⟩
theorem Rel.vw {p : Pre} {v : V} {o : OV} (R : Rel K C F fp τ σ H) (h : OpdR K F σ p v) (e : Pf.vw τ p = some o) : View K F H o v := by
  cases p with
  | val r =>
    obtain ⟨d, e1, q⟩ := h
    subst e1
    cases e
    exact ⟨[], Own.of_rep q⟩
  | sl i =>
    obtain ⟨w, e1, q⟩ := R.slot i o e
    have e2 : some (some w) = some (some v) := e1.symm.trans h
    cases e2
    exact ⟨_, q⟩
theorem Rel.settle {io : List Nat} {p : Pre} {v : V} {d : D} {τ' : T} (hio : C.ios.map (·.1) = io) (R : Rel K C F fp τ σ H) (h : PreR K C F fp σ H p v) (e : Pf.settle io p τ = .ok (d, τ')) :
    ∃ F' fp', Rel K C F' fp' τ' σ H ∧ Same F F' ∧ Rep K F' d v := by
  cases p with
  | val r =>
    obtain ⟨as, t⟩ := h
    obtain ⟨F', R', s, q⟩ := R.freeze t
    cases e
    exact ⟨F', fp, R', s, q⟩
  | sl i =>
    have e : frzSlot io i τ (slotAt τ i) = .ok (d, τ') := e
    cases hs : slotAt τ i with
    | none => rw [hs] at e; cases e
    | some o =>
      rw [hs] at e
      cases o with
      | fz d' =>
        cases e
        obtain ⟨w, e1, q⟩ := R.slot i _ hs
        have e2 : some (some w) = some (some v) := e1.symm.trans h
        cases e2
        rw [Own.fz_iff] at q
        exact ⟨F, fp, R, Same.refl _, q.2⟩
      | ls xs =>
        have e : (if i ∈ io then Res.bad else Res.ok ((OV.ls xs).er, τ.set i (some (.fz (OV.ls xs).er)))) = Res.ok (d, τ') := e
        by_cases hi : i ∈ io
        · rw [if_pos hi] at e; cases e
        · rw [if_neg hi] at e
          cases e
          obtain ⟨F', fp', w, R', s, e1, q⟩ := R.freezeSlot hs (by rw [hio]; exact hi)
          have e2 : some (some w) = some (some v) := e1.symm.trans h
          cases e2
          exact ⟨F', fp', R', s, q⟩
end

/-! ### slots, constants -/
section
variable {X : Cx} {io : List Nat} {pos : Pos} {a b : Expr} {f g : FP}
theorem pe_weak {e : Expr} {t t' : TE} (h : PE X e t) (w : ∀ σ H Q, t' σ H Q → t σ H Q) : PE X e t' := ⟨fun pins s σ H Q I q => h.run pins s σ H Q I (w σ H Q q)⟩
theorem pt_weak {e : Expr} {t t' : TT} (h : PT X e t) (w : ∀ σ H Q, t' σ H Q → t σ H Q) : PT X e t' := ⟨fun pins s σ H Q I q => h.run pins s σ H Q I (w σ H Q q)⟩
theorem pw_weak {e : Expr} {t t' : TT} (h : PW X e t) (w : ∀ σ H Q, t' σ H Q → t σ H Q) : PW X e t' := ⟨fun wh pins s σ H Q I q => h.run wh pins s σ H Q I (w σ H Q q)⟩
theorem pa_weak {es : List Expr} {t t' : TA} (h : PA X es t) (w : ∀ σ H Q, t' σ H Q → t σ H Q) : PA X es t' := ⟨fun p pins s σ H Q I q => h.run p pins s σ H Q I (w σ H Q q)⟩
def eSlot (i : Nat) : FP := fun τ => match slotAt τ i with
  | some _ => .ok (.sl i, τ)
  | none => .bad
theorem xp_slot {i : Nat} {x : Str} (hN : X.N[i]? = some x) (hv : Vis X.env.scope x) (hd : (x == ("__debug__" : Str)) = false) (hcd : (x == ("__classdict__" : Str)) = false) : XP X io (.Name x pos) (eSlot i) := by
  refine pe_weak (pe_var hN hv hd hcd) fun σ H Q ⟨C, F, fp, τ, p, τ', hio, R, e, q⟩ => ?_
  unfold eSlot at e
  cases hs : slotAt τ i with
  | none => rw [hs] at e; cases e
  | some o =>
    rw [hs] at e
    cases e
    obtain ⟨v, e1, w⟩ := R.slot i o hs
    exact ⟨v, e1, q F fp H v R (Same.refl _) e1⟩
def eLit (d : D) : FP := fun τ => .ok (.val (.fz d), τ)
theorem lit_fin {d : D} {v : V} (hd : ∀ F, Rep X.K F d v) {σ : L2.St} {H : Hp} {Q : VK} (h : rdP X.K io (eLit d) σ H Q) : Q v H := by
  obtain ⟨C, F, fp, τ, p, τ', hio, R, e, q⟩ := h
  cases e
  refine q F fp H v R (Same.refl _) ?_
  exact ((Grow.same R.sub (hd F)).rel R).2
theorem xp_int {i : Int} {j : Nat} : XP X io (.Constant (.int i) j pos) (eLit (.int i)) := pe_weak pe_int fun σ H Q h => lit_fin (fun F => by rw [Rep]) h
theorem xp_str {x : Str} {j : Nat} : XP X io (.Constant (.str x) j pos) (eLit (.str x)) := pe_weak pe_str fun σ H Q h => lit_fin (fun F => by rw [Rep]) h
theorem xp_bl {b : Bool} {j : Nat} : XP X io (.Constant (.bool b) j pos) (eLit (.bl b)) := pe_weak pe_bl fun σ H Q h => lit_fin (fun F => by rw [Rep]) h
theorem xp_non {j : Nat} : XP X io (.Constant .none j pos) (eLit .non) := pe_weak pe_non fun σ H Q h => lit_fin (fun F => by rw [Rep]) h

/-! ### two operands -/
/-- f and g one after the other, both kept, then looked at -/
def two (f g : FP) (k : OV → OV → Res OV) : FP := fun τ => (f τ).bind fun (p, τ1) => (g τ1).bind fun (q, τ2) =>
  match vw τ2 (opd p), vw τ2 (opd q) with
  | some x, some y => (k x y).bind fun r => .ok (.val r, τ2)
  | _, _ => .bad
/-- an operation on two values that are looked at -/
def OpS (X : Cx) (f : Value → Value → Sem Value) (k : OV → OV → Res OV) : Prop :=
  ∀ (pins : List (Addr × Obj)) (s : Shared) (σ : L2.St) (F H : Hp) (x y : V) (v u : Value) (o o' r : OV) (Q : VK), Inv X pins σ H s → Same F H → RelV x v → RelV y u → View X.K F H o x → View X.K F H o' y → k o o' = .ok r →
    (∀ z F' H', Grow X.K F H r z F' H' → Q z H') → wpAny (model X.prog X.w) X.A (f v u) (EP X pins σ Q) X.xe s
/-- the reading of an operation by what is looked at -/
def rO (K : PySem.W.Frag) (k : OV → OV → Res OV) : R2 := fun x y H Q => ∃ F o o' r, Same F H ∧ View K F H o x ∧ View K F H o' y ∧ k o o' = .ok r ∧ ∀ z F' H', Grow K F H r z F' H' → Q z H'
theorem OpS.opR {f : Value → Value → Sem Value} {k : OV → OV → Res OV} (h : OpS X f k) : OpR X f (rO X.K k) := fun pins s σ H x y v u Q I rx ry ⟨F, o, o', r, s1, w1, w2, e, q⟩ => h pins s σ F H x y v u o o' r Q I s1 rx ry w1 w2 e q
theorem two_weak {k : OV → OV → Res OV} {σ : L2.St} {H : Hp} {Q : VK} (h : rdP X.K io (two f g k) σ H Q) : tOp (rO X.K k) (rdP X.K io f) (rdP X.K io g) σ H Q := by
  obtain ⟨C, F, fp, τ, p, τ', hio, R, e, q⟩ := h
  unfold two at e
  obtain ⟨⟨p1, τ1⟩, e1, e⟩ := Res.bind_ok e
  obtain ⟨⟨p2, τ2⟩, e2, e⟩ := Res.bind_ok e
  refine ⟨C, F, fp, τ, p1, τ1, hio, R, e1, fun F1 fp1 H1 x R1 s1 w1 => ?_⟩
  obtain ⟨F1', R1', s1', w1'⟩ := R1.opd w1
  refine ⟨C, F1', fp1, τ1, p2, τ2, hio, R1', e2, fun F2 fp2 H2 y R2 s2 w2 => ?_⟩
  obtain ⟨F2', R2', s2', w2'⟩ := R2.opd w2
  dsimp only at e
  cases hx : vw τ2 (opd p1) with
  | none => rw [hx] at e; cases e
  | some ox =>
    cases hy : vw τ2 (opd p2) with
    | none => rw [hx, hy] at e; cases e
    | some oy =>
      rw [hx, hy] at e
      obtain ⟨r, e3, e4⟩ := Res.bind_ok e
      cases e4
      refine ⟨F2', ox, oy, r, R2'.sub, R2'.vw (w1'.mono (s2.trans s2')) hx, R2'.vw w2' hy, e3, fun z F3 H3 g3 => ?_⟩
      obtain ⟨R3, as, t3⟩ := g3.rel R2'
      exact q F3 fp2 H3 z R3 (((s1.trans s1').trans (s2.trans s2')).trans g3.frozen) ⟨as, t3⟩
theorem xp_bin {op : Operator} {k : OV → OV → Res OV} (ho : OpS X (binaryOp op) k) (ha : XP X io a f) (hb : XP X io b g) : XP X io (.BinOp a op b pos) (two f g k) :=
  pe_weak (pe_op ho.opR ha hb) fun _ _ _ h => two_weak h
theorem xp_cmp {op : CmpOp} {k : OV → OV → Res OV} (ho : OpS X (compareOp op) k) (hm : behindInMarks op b = false) (ha : XP X io a f) (hb : XP X io b g) : XP X io (.Compare a [op] [b] pos) (two f g k) :=
  pe_weak (pe_cmpR ho.opR ha hb hm) fun _ _ _ h => two_weak h
/-- a comparison gives a truth -/
def truthOf (o : OV) : Res Bool := match o with
  | .fz .non => .ok false
  | .fz (.bl b) => .ok b
  | .fz (.int i) => .ok (i != 0)
  | .fz (.str x) => if x.length ≤ sizeLine then .ok ((x.length : Int) != 0) else .bad
  | .fz (.tup xs) => .ok (!xs.isEmpty)
  | .fz (.lst xs) => .ok (!xs.isEmpty)
  | .ls xs => .ok (!xs.isEmpty)
theorem isEmpty_len {α β : Type} {xs : List α} {ys : List β} (h : xs.length = ys.length) : xs.isEmpty = ys.isEmpty := by
  cases xs <;> cases ys <;> first | rfl | simp at h
theorem Owns.length {K : PySem.W.Frag} {F H : Hp} : ∀ {os : List OV} {vs : List V} {as : List Addr}, Owns K F H os vs as → os.length = vs.length
  | [], _, _, h => by rw [Owns] at h; rw [h.1]; rfl
  | x :: xs, vs, as, h => by
    rw [Owns] at h
    obtain ⟨v, ws, bs, cs, e, e2, r, rs, n⟩ := h
    subst e
    rw [List.length_cons, List.length_cons, Owns.length rs]
theorem View.tru {K : PySem.W.Frag} {F H : Hp} {o : OV} {v : V} {b : Bool} (s : Same F H) (w : View K F H o v) (e : truthOf o = .ok b) : TruV K v H b := by
  obtain ⟨as, w⟩ := w
  cases o with
  | ls xs =>
    rw [Own] at w
    obtain ⟨a, vs, bs, rfl, e2, q, n, r⟩ := w
    cases e
    exact .inl ⟨vs, SqL.of q, by rw [isEmpty_len r.length]⟩
  | fz d =>
    rw [Own.fz_iff] at w
    obtain ⟨_, w⟩ := w
    cases d with
    | non => rw [Rep] at w; subst w; cases e; rfl
    | bl c => rw [Rep] at w; subst w; cases e; rfl
    | int i => rw [Rep] at w; subst w; cases e; rfl
    | str x =>
      rw [Rep] at w; subst w
      unfold truthOf at e
      by_cases hx : x.length ≤ sizeLine
      · simp only [hx, if_true] at e; cases e; exact ⟨hx, rfl⟩
      · simp only [hx, if_false] at e; cases e
    | tup xs =>
      rw [Rep] at w
      obtain ⟨a, vs, rfl, q, r⟩ := w
      cases e
      exact .inr (.inl ⟨vs, sqt_mono s q, by rw [isEmpty_len r.length]⟩)
    | lst xs =>
      rw [Rep] at w
      obtain ⟨a, vs, rfl, q, r⟩ := w
      cases e
      exact .inl ⟨vs, (q.mono s).sql, by rw [isEmpty_len r.length]⟩
/-- the truth of what f gives -/
def tru (f : FP) : T → Res (Bool × T) := fun τ => (f τ).bind fun (p, τ1) => match vw τ1 (opd p) with
  | some o => (truthOf o).bind fun b => .ok (b, τ1)
  | none => .bad
theorem tru_open {σ : L2.St} {H : Hp} {Q : Bool → Hp → Prop} (h : rdT X.K io (tru f) σ H Q) : rdP X.K io f σ H fun v H1 => ∃ k, TruV X.K v H1 k ∧ Q k H1 := by
  obtain ⟨C, F, fp, τ, b, τ', hio, R, e, q⟩ := h
  unfold tru at e
  obtain ⟨⟨p, τ1⟩, e1, e⟩ := Res.bind_ok e
  refine ⟨C, F, fp, τ, p, τ1, hio, R, e1, fun F1 fp1 H1 v R1 s1 w1 => ?_⟩
  obtain ⟨F2, R2, s2, w2⟩ := R1.opd w1
  dsimp only at e
  cases hx : vw τ1 (opd p) with
  | none => rw [hx] at e; cases e
  | some o =>
    rw [hx] at e
    obtain ⟨k, e3, e4⟩ := Res.bind_ok e
    cases e4
    exact ⟨b, (R2.vw w2 hx).tru R2.sub e3, q F2 fp1 H1 R2 (s1.trans s2)⟩
theorem xt_of (ha : XP X io a f) (he : ∀ whole, isTrue a X.env whole = (do let v ← whole; standAt a.pos; holding [v] (truthy v))) : XT X io a (tru f) :=
  pt_weak (pt_truth ha he) fun _ _ _ h => tru_open h
theorem TruV.bl {K : PySem.W.Frag} {H : Hp} {v : V} {k : Bool} {F : Hp} {b : Bool} (h : Rep K F (.bl b) v) : v = .bl b := by rw [Rep] at h; exact h
theorem xt_cmp {op : CmpOp} {k : OV → OV → Res OV} (ho : OpS X (compareOp op) k) (hk : ∀ x y r, k x y = .ok r → ∃ b, r = .fz (.bl b)) (hm : behindInMarks op b = false) (ha : XP X io a f) (hb : XP X io b g) :
    XT X io (.Compare a [op] [b] pos) (tru (two f g k)) := by
  refine pt_weak (pt_cmpR ho.opR ha hb hm) fun σ H Q h => ?_
  refine two_weak ?_
  obtain ⟨C, F, fp, τ, c, τ', hio, R, e, q⟩ := h
  unfold tru at e
  obtain ⟨⟨p, τ1⟩, e1, e⟩ := Res.bind_ok e
  refine ⟨C, F, fp, τ, p, τ1, hio, R, e1, fun F1 fp1 H1 v R1 s1 w1 => ?_⟩
  have hp : ∃ b, p = .val (.fz (.bl b)) := by
    unfold two at e1
    obtain ⟨⟨p1, t1⟩, z1, z⟩ := Res.bind_ok e1
    obtain ⟨⟨p2, t2⟩, z2, z⟩ := Res.bind_ok z
    dsimp only at z
    cases hx : vw t2 (opd p1) with
    | none => rw [hx] at z; cases z
    | some ox =>
      cases hy : vw t2 (opd p2) with
      | none => rw [hx, hy] at z; cases z
      | some oy =>
        rw [hx, hy] at z
        obtain ⟨r, z3, z4⟩ := Res.bind_ok z
        cases z4
        obtain ⟨b, rfl⟩ := hk _ _ _ z3
        exact ⟨b, rfl⟩
  obtain ⟨bb, rfl⟩ := hp
  obtain ⟨as, t⟩ := w1
  have w := t.own
  rw [Own.fz_iff] at w
  have hv := TruV.bl (K := X.K) (H := H1) (k := bb) w.2
  cases e
  exact ⟨_, hv, q F1 fp1 H1 R1 s1⟩
end
end Pf

/-! Pf2: operators and comparisons on what is looked at. -/
namespace Pf
open PySem PySem.Spec PyProof.Rows L2

/-- a list's items that are all frozen -/
def allFz : List OV → Option (List D)
  | [] => some []
  | .fz d :: xs => (allFz xs).map (d :: ·)
  | .ls _ :: _ => none
theorem allFz_eq : ∀ {xs : List OV} {ds : List D}, allFz xs = some ds → xs = ds.map OV.fz
  | [], ds, h => by cases h; rfl
  | .fz d :: xs, ds, h => by
    rw [allFz] at h
    cases e : allFz xs with
    | none => rw [e] at h; cases h
    | some es =>
      rw [e] at h
      cases h
      rw [allFz_eq e]; rfl
  | .ls _ :: _, ds, h => by cases h
@[simp] theorem allFz_map : ∀ ds : List D, allFz (ds.map OV.fz) = some ds
  | [] => rfl
  | d :: ds => by rw [List.map_cons, allFz, allFz_map ds]; rfl
def listOf : OV → Option (List D)
  | .fz (.lst ds) => some ds
  | .ls xs => allFz xs
  | _ => none
/-- a list's or a tuple's items -/
def seqOf : OV → Option (List D)
  | .fz (.tup ds) => some ds
  | o => listOf o
section
variable {K : PySem.W.Frag} {F H : Hp} {v : V} {o : OV} {ds : List D}
theorem View.list (s : Same F H) (w : View K F H o v) (e : listOf o = some ds) : ∃ a vs, v = .ref a ∧ LsR K H a vs ∧ Reps K F ds vs := by
  obtain ⟨as, w⟩ := w
  cases o with
  | ls xs =>
    have e := allFz_eq e
    subst e
    rw [Own] at w
    obtain ⟨a, vs, bs, rfl, e2, q, n, r⟩ := w
    exact ⟨a, vs, rfl, LsR.of q, (Owns.to_reps r).1⟩
  | fz d =>
    rw [Own.fz_iff] at w
    obtain ⟨_, w⟩ := w
    cases d with
    | lst xs =>
      cases e
      rw [Rep] at w
      obtain ⟨a, vs, rfl, q, r⟩ := w
      exact ⟨a, vs, rfl, q.mono s, r⟩
    | _ => cases e
theorem View.fz {d : D} (w : View K F H (.fz d) v) : Rep K F d v := by
  obtain ⟨as, w⟩ := w
  rw [Own.fz_iff] at w
  exact w.2
theorem View.tup (s : Same F H) (w : View K F H (.fz (.tup ds)) v) : ∃ a vs, v = .ref a ∧ SqT K H a vs ∧ Reps K F ds vs := by
  have w := w.fz
  rw [Rep] at w
  obtain ⟨a, vs, rfl, q, r⟩ := w
  exact ⟨a, vs, rfl, sqt_mono s q, r⟩
theorem View.seq (s : Same F H) (w : View K F H o v) (e : seqOf o = some ds) : ∃ a vs, v = .ref a ∧ (SqL K H a vs ∨ SqT K H a vs) ∧ Reps K F ds vs := by
  have tail : ∀ o, View K F H o v → listOf o = some ds → ∃ a vs, v = .ref a ∧ (SqL K H a vs ∨ SqT K H a vs) ∧ Reps K F ds vs := fun o w e => by
    obtain ⟨a, vs, e1, q, r⟩ := w.list s e
    exact ⟨a, vs, e1, .inl q.sql, r⟩
  cases o with
  | ls xs => exact tail _ w e
  | fz d =>
    cases d with
    | tup xs =>
      cases e
      obtain ⟨a, vs, e1, q, r⟩ := w.tup s
      exact ⟨a, vs, e1, .inr q, r⟩
    | _ => exact tail _ w e
theorem View.int {i : Int} (w : View K F H (.fz (.int i)) v) : v = .int i := by have w := w.fz; rw [Rep] at w; exact w
theorem View.str {x : Str} (w : View K F H (.fz (.str x)) v) : v = .str x := by have w := w.fz; rw [Rep] at w; exact w
theorem View.bl {b : Bool} (w : View K F H (.fz (.bl b)) v) : v = .bl b := by have w := w.fz; rw [Rep] at w; exact w
theorem View.non (w : View K F H (.fz .non) v) : v = .non := by have w := w.fz; rw [Rep] at w; exact w
end

/-! ### arithmetic -/
def gd {α : Type} (c : Bool) (a : α) : Res α := if c = true then .ok a else .bad
@[simp] theorem gd_true {α : Type} (a : α) : gd true a = .ok a := rfl
theorem gd_ok {α : Type} {c : Bool} {a b : α} (h : gd c a = .ok b) : c = true ∧ a = b := by
  cases c with
  | true => cases h; exact ⟨rfl, rfl⟩
  | false => cases h
def catS (o o' : OV) : Res OV := match listOf o, listOf o' with
  | some ds, some es => gd (decide (ds.length + es.length ≤ sizeLine)) (.ls ((ds ++ es).map OV.fz))
  | _, _ => .bad
def addS : OV → OV → Res OV
  | .fz (.int i), .fz (.int j) => .ok (.fz (.int (i + j)))
  | .fz (.str x), .fz (.str y) => gd (decide (x.length + y.length ≤ sizeLine)) (.fz (.str (x ++ y)))
  | .fz (.tup xs), .fz (.tup ys) => gd (decide (xs.length + ys.length ≤ sizeLine)) (.fz (.tup (xs ++ ys)))
  | .fz (.lst xs), o' => catS (.fz (.lst xs)) o'
  | .ls xs, o' => catS (.ls xs) o'
  | _, _ => .bad
def subS : OV → OV → Res OV
  | .fz (.int i), .fz (.int j) => .ok (.fz (.int (i - j)))
  | _, _ => .bad
/-- a product: one factor below 2^64, or together below a million bits -/
def mulOk (i j : Int) : Bool := decide ((-(2 ^ 64) < i ∧ i < 2 ^ 64) ∨ (-(2 ^ 64) < j ∧ j < 2 ^ 64) ∨ i.natAbs.log2 + j.natAbs.log2 < 1000000)
def repS (o : OV) (k : Int) : Res OV := match listOf o with
  | some ds => gd (decide (-(2 ^ 63) ≤ k ∧ k < 2 ^ 63 ∧ ds.length * k.toNat ≤ sizeLine)) (.ls ((List.replicate k.toNat ds).flatten.map OV.fz))
  | none => .bad
def mulS : OV → OV → Res OV
  | .fz (.int i), .fz (.int j) => gd (mulOk i j) (.fz (.int (i * j)))
  | o, .fz (.int k) => repS o k
  | _, _ => .bad
def divS : OV → OV → Res OV
  | .fz (.int i), .fz (.int j) => gd (decide (0 < j ∧ j.natAbs.log2 < 9000)) (.fz (.int (i / j)))
  | _, _ => .bad
def modS : OV → OV → Res OV
  | .fz (.int i), .fz (.int j) => gd (decide (0 < j)) (.fz (.int (i % j)))
  | _, _ => .bad
def powS : OV → OV → Res OV
  | .fz (.int i), .fz (.int j) => gd (decide (0 ≤ j ∧ j ≤ 1000000 ∧ i.natAbs < 2 ^ 64)) (.fz (.int (i ^ j.toNat)))
  | _, _ => .bad

section
variable {X : Cx}
theorem grow_int {K : PySem.W.Frag} {F H : Hp} (s : Same F H) (i : Int) : Grow K F H (.fz (.int i)) (.int i) F H := Grow.same s (by rw [Rep])
theorem grow_bl {K : PySem.W.Frag} {F H : Hp} (s : Same F H) (b : Bool) : Grow K F H (.fz (.bl b)) (.bl b) F H := Grow.same s (by rw [Rep])
theorem grow_str {K : PySem.W.Frag} {F H : Hp} (s : Same F H) (x : Str) : Grow K F H (.fz (.str x)) (.str x) F H := Grow.same s (by rw [Rep])
theorem grow_non {K : PySem.W.Frag} {F H : Hp} (s : Same F H) : Grow K F H (.fz .non) .non F H := Grow.same s (by rw [Rep])
theorem cat_lists {o o' r : OV} {pins : List (Addr × Obj)} {s : Shared} {σ : L2.St} {F H : Hp} {x y : V} {v u : Value} {Q : VK} (I : Inv X pins σ H s) (sm : Same F H) (rx : RelV x v) (ry : RelV y u) (w1 : View X.K F H o x) (w2 : View X.K F H o' y)
    (e : catS o o' = .ok r) (q : ∀ z F' H', Grow X.K F H r z F' H' → Q z H') : wpAny (model X.prog X.w) X.A (binaryOp .Add v u) (EP X pins σ Q) X.xe s := by
  unfold catS at e
  cases e1 : listOf o with
  | none => rw [e1] at e; cases e
  | some ds =>
    cases e2 : listOf o' with
    | none => rw [e1, e2] at e; cases e
    | some es =>
      rw [e1, e2] at e
      obtain ⟨hz, rfl⟩ := gd_ok e
      have hz := of_decide_eq_true hz
      obtain ⟨a, vs, rfl, l1, r1⟩ := w1.list sm e1
      obtain ⟨b, ws, rfl, l2, r2⟩ := w2.list sm e2
      cases rx
      cases ry
      obtain ⟨z1, its, n, rv, hl, g1⟩ := l1.exact I
      obtain ⟨z2, its2, n2, rv2, hl2, g2⟩ := l2.exact I
      have hl3 := r1.length
      have hl4 := r2.length
      refine PySem.P.add_list g1 g2 ?_ (by simp only [List.size_toArray]; omega)
      have ea : its.toArray ++ its2.toArray = (its ++ its2).toArray := by simp
      rw [ea]
      exact ⟨.ref _, _, I.lnew (t' := s.toks) (rv.append rv2) (by rw [List.length_append]; omega), rfl, q _ _ _ (Grow.lst sm I.fresh (r1.append r2))⟩
theorem os_add : OpS X (binaryOp .Add) addS := by
  intro pins s σ F H x y v u o o' r Q I sm rx ry w1 w2 e q
  have lists : catS o o' = .ok r → wpAny (model X.prog X.w) X.A (binaryOp .Add v u) (EP X pins σ Q) X.xe s := fun e => cat_lists I sm rx ry w1 w2 e q
  cases o with
  | ls xs => exact lists e
  | fz d =>
    cases d with
    | int i =>
      cases o' with
      | fz d' =>
        cases d' with
        | int j =>
          cases e
          exact op_add pins s σ H x y v u Q I rx ry ⟨i, j, w1.int, w2.int, q _ _ _ (grow_int sm _)⟩
        | _ => cases e
      | _ => cases e
    | str i =>
      cases o' with
      | fz d' =>
        cases d' with
        | str j =>
          obtain ⟨hz, rfl⟩ := gd_ok e
          exact op_add_str pins s σ H x y v u Q I rx ry ⟨i, j, w1.str, w2.str, of_decide_eq_true hz, q _ _ _ (grow_str sm _)⟩
        | _ => cases e
      | _ => cases e
    | tup xs =>
      cases o' with
      | fz d' =>
        cases d' with
        | tup ys =>
          obtain ⟨hz, rfl⟩ := gd_ok e
          have hz := of_decide_eq_true hz
          obtain ⟨a, vs, e1, l1, r1⟩ := w1.tup sm
          obtain ⟨b, ws, e2, l2, r2⟩ := w2.tup sm
          refine op_catA pins s σ H x y v u Q I rx ry ⟨a, b, vs, ws, e1, e2, l1, l2, by rw [← r1.length, ← r2.length]; exact hz, fun z => ?_, fun z z2 => ?_, fun z z2 p np => ?_⟩
          · subst z
            have hx : xs = [] := List.eq_nil_of_length_eq_zero (by rw [r1.length]; rfl)
            subst hx
            refine q _ _ _ (Grow.same sm ?_)
            rw [← e2]
            exact w2.fz
          · subst z2
            have hy : ys = [] := List.eq_nil_of_length_eq_zero (by rw [r2.length]; rfl)
            subst hy
            refine q _ _ _ (Grow.same sm ?_)
            rw [List.append_nil, ← e1]
            exact w1.fz
          · exact q _ _ _ (Grow.tup sm np (r1.append r2))
        | _ => cases e
      | _ => cases e
    | lst xs => exact lists e
    | _ => cases e
theorem os_sub : OpS X (binaryOp .Sub) subS := by
  intro pins s σ F H x y v u o o' r Q I sm rx ry w1 w2 e q
  unfold subS at e
  split at e
  · cases e
    exact op_sub pins s σ H x y v u Q I rx ry ⟨_, _, w1.int, w2.int, q _ _ _ (grow_int sm _)⟩
  · cases e
theorem os_div : OpS X (binaryOp .FloorDiv) divS := by
  intro pins s σ F H x y v u o o' r Q I sm rx ry w1 w2 e q
  unfold divS at e
  split at e
  · obtain ⟨hz, rfl⟩ := gd_ok e
    have hz := of_decide_eq_true hz
    exact op_fdivW pins s σ H x y v u Q I rx ry ⟨_, _, w1.int, w2.int, hz, q _ _ _ (grow_int sm _)⟩
  · cases e
theorem os_mod : OpS X (binaryOp .Mod) modS := by
  intro pins s σ F H x y v u o o' r Q I sm rx ry w1 w2 e q
  unfold modS at e
  split at e
  · obtain ⟨hz, rfl⟩ := gd_ok e
    exact op_mod pins s σ H x y v u Q I rx ry ⟨_, _, w1.int, w2.int, of_decide_eq_true hz, q _ _ _ (grow_int sm _)⟩
  · cases e
theorem os_pow : OpS X (binaryOp .Pow) powS := by
  intro pins s σ F H x y v u o o' r Q I sm rx ry w1 w2 e q
  unfold powS at e
  split at e
  · obtain ⟨hz, rfl⟩ := gd_ok e
    have hz := of_decide_eq_true hz
    exact op_pow pins s σ H x y v u Q I rx ry ⟨_, _, w1.int, w2.int, hz, q _ _ _ (grow_int sm _)⟩
  · cases e
theorem Reps.flat {K : PySem.W.Frag} {F : Hp} {ds : List D} {vs : List V} (r : Reps K F ds vs) : ∀ n : Nat, Reps K F (List.replicate n ds).flatten (List.replicate n vs).flatten
  | 0 => Reps.nil
  | n + 1 => by
    rw [List.replicate_succ, List.flatten_cons, List.replicate_succ, List.flatten_cons]
    exact r.append (r.flat n)
theorem vals_flat {vs : List V} {us : List Value} (r : Vals vs us) : ∀ n : Nat, Vals (List.replicate n vs).flatten (List.replicate n us).flatten
  | 0 => .nil
  | n + 1 => by
    rw [List.replicate_succ, List.flatten_cons, List.replicate_succ, List.flatten_cons]
    exact r.append (vals_flat r n)
theorem fold_flat (its : List Value) (m : Nat) : List.foldl (fun a b => a ++ b) #[] (List.replicate (if its.toArray.isEmpty = true then 0 else m) its.toArray) = (List.replicate m its).flatten.toArray := by
  have g : ∀ (n : Nat) (acc : List Value), List.foldl (fun a b => a ++ b) acc.toArray (List.replicate n its.toArray) = (acc ++ (List.replicate n its).flatten).toArray := by
    intro n
    induction n with
    | zero => intro acc; simp
    | succ n ih =>
      intro acc
      rw [List.replicate_succ, List.foldl_cons, List.replicate_succ, List.flatten_cons]
      have e : acc.toArray ++ its.toArray = (acc ++ its).toArray := by simp
      rw [e, ih, List.append_assoc]
  cases its with
  | nil => simp
  | cons a r' =>
    rw [if_neg (by simp)]
    have := g m []
    rw [List.nil_append] at this
    exact this
theorem os_rep {o r : OV} {k : Int} {pins : List (Addr × Obj)} {s : Shared} {σ : L2.St} {F H : Hp} {x : V} {v : Value} {t : Tok} {Q : VK} (I : Inv X pins σ H s) (sm : Same F H) (rx : RelV x v) (w1 : View X.K F H o x)
    (e : repS o k = .ok r) (q : ∀ z F' H', Grow X.K F H r z F' H' → Q z H') : wpAny (model X.prog X.w) X.A (binaryOp .Mult v (.int k t)) (EP X pins σ Q) X.xe s := by
  unfold repS at e
  cases e1 : listOf o with
  | none => rw [e1] at e; cases e
  | some ds =>
    rw [e1] at e
    obtain ⟨hz, rfl⟩ := gd_ok e
    obtain ⟨h1, h2, hz⟩ := of_decide_eq_true hz
    obtain ⟨a, vs, rfl, l1, r1⟩ := w1.list sm e1
    cases rx
    obtain ⟨z1, its, n, rv, hl, g1⟩ := l1.exact I
    have hl3 := r1.length
    have hsz : its.toArray.size * k.toNat ≤ sizeLine := by rw [List.size_toArray, ← hl, ← hl3]; exact hz
    have c1 : ¬ its.toArray.size * k.toNat > (2 ^ 63 - 1) / 8 := by
      have z : (sizeLine : Nat) ≤ (2 ^ 63 - 1) / 8 := by decide
      omega
    have c2 : ¬ (!Builtin.List.listFitsIndex k) = true := by rw [fitsIndex_both h1 h2]; decide
    have c3 : ¬ Builtin.List.listTooLong (its.toArray.size * k.toNat) = true := by rw [notLongL hsz]; decide
    refine wpAny_binaryOp_repeat_ref (T := "list") (U := "int") (by decide) ⟨_, g1, rfl⟩ (fun s' => typeIs_int s' k t) noFill_list_mul PySem.F.fills_int_mul PySem.F.slot_int_rmul repeat_list PySem.F.slot_int_index.lookup ?_
    refine call_meets PySem.F.slot_int_rmul (typeIs_int s k t) PySem.F.entry_int_rmul (PySem.F.args_int_rmul_2 _ _) (int___rmul___int_list k t a its.toArray n) ⟨g1, rfl, ⟨_, g1, rfl⟩, ?_⟩
    refine call_meets PySem.F.slot_list_mul ⟨_, g1, rfl⟩ PySem.F.entry_list_mul (PySem.F.args_list_mul_2 _ _) (AutoListH.list___mul___list_int_3 a its.toArray n k t c2 c1 c3) ⟨g1, ?_⟩
    rw [fold_flat]
    have hlen : (List.replicate k.toNat vs).flatten.length ≤ sizeLine := by rw [PyProof.Rows.lm_len_rep_flat, Nat.mul_comm, ← hl3]; exact hz
    exact ⟨.ref _, _, I.lnew (t' := s.toks) (vals_flat rv k.toNat) hlen, rfl, q _ _ _ (Grow.lst sm I.fresh (r1.flat k.toNat))⟩
theorem os_mul : OpS X (binaryOp .Mult) mulS := by
  intro pins s σ F H x y v u o o' r Q I sm rx ry w1 w2 e q
  unfold mulS at e
  split at e
  · obtain ⟨hz, rfl⟩ := gd_ok e
    have hz := of_decide_eq_true hz
    rcases hz with hz | hz | hz
    · exact op_mul pins s σ H x y v u Q I rx ry ⟨_, _, w1.int, w2.int, .inl hz, q _ _ _ (grow_int sm _)⟩
    · exact op_mul pins s σ H x y v u Q I rx ry ⟨_, _, w1.int, w2.int, .inr hz, q _ _ _ (grow_int sm _)⟩
    · exact op_mulW pins s σ H x y v u Q I rx ry ⟨_, _, w1.int, w2.int, hz, q _ _ _ (grow_int sm _)⟩
  · have hy := w2.int
    subst hy
    obtain ⟨t, rfl⟩ := ry
    exact os_rep I sm rx w1 e q
  · cases e
end

/-! ### comparisons -/
mutual
theorem D.plain : ∀ d : D, d.py.plain = true
  | .non => by simp only [D.py, PyData.plain]
  | .bl b => by simp only [D.py, PyData.plain]
  | .int i => by simp only [D.py, PyData.plain]
  | .str x => by simp only [D.py, PyData.plain]
  | .tup xs => by simp only [D.py, PyData.plain]; exact D.plains xs
  | .lst xs => by simp only [D.py, PyData.plain]; exact D.plains xs
theorem D.plains : ∀ ds : List D, PyData.plainAll (D.pys ds) = true
  | [] => by simp only [D.pys, PyData.plainAll]
  | x :: xs => by simp only [D.pys, PyData.plainAll, D.plain x, D.plains xs, Bool.and_self]
end
def D.eqv (a b : D) : Bool := PyData.eqv a.py b.py
def D.dep (d : D) : Nat := d.py.depth
def depOk (a b : D) : Bool := decide (min a.dep b.dep ≤ 60)
def eqS (o o' : OV) : Res OV := gd (depOk o.er o'.er) (.fz (.bl (D.eqv o.er o'.er)))
def neS (o o' : OV) : Res OV := gd (depOk o.er o'.er) (.fz (.bl (!D.eqv o.er o'.er)))
def D.lt (a b : D) : Bool := PySem.W.dataLt a.py b.py
def cmpOk (a b : D) : Bool := PySem.W.alike a.py b.py && (match a with | .non => false | _ => true) && depOk a b
def ltS (o o' : OV) : Res OV := gd (cmpOk o.er o'.er) (.fz (.bl (D.lt o.er o'.er)))
def gtS (o o' : OV) : Res OV := gd (cmpOk o.er o'.er) (.fz (.bl (D.lt o'.er o.er)))
def leS (o o' : OV) : Res OV := gd (cmpOk o.er o'.er) (.fz (.bl (!D.lt o'.er o.er)))
def geS (o o' : OV) : Res OV := gd (cmpOk o.er o'.er) (.fz (.bl (!D.lt o.er o'.er)))
def isNon : OV → Bool
  | .fz .non => true
  | _ => false
def isS (o o' : OV) : Res OV := gd (isNon o') (.fz (.bl (isNon o)))
def isnotS (o o' : OV) : Res OV := gd (isNon o') (.fz (.bl (!isNon o)))
def itemsEr : D → Option (List D)
  | .tup xs => some xs
  | .lst xs => some xs
  | _ => none
def D.mem (x : D) (xs : List D) : Bool := xs.any fun y => D.eqv y x
def inStr (x y : Str) : Bool := !(Builtin.Str.occurrences y x 0 y.length 1).isEmpty
/-- one sign in a text -/
def inSign (x y : Str) : Bool := match x.cps.toList with
  | [c] => decide (c ∈ y.cps.toList)
  | _ => inStr x y
def memS (neg : Bool) (o o' : OV) : Res OV := match o.er, o'.er with
  | .str x, .str y => .ok (.fz (.bl (neg.xor (inSign x y))))
  | d, e => match itemsEr e with
    | some es => gd (decide (d.dep ≤ 60)) (.fz (.bl (neg.xor (D.mem d es))))
    | none => .bad
section
variable {X : Cx} (hu : X.A.units + 65 < cLine)
theorem View.reads {K : PySem.W.Frag} {pins : List (Addr × Obj)} {σ : L2.St} {F H : Hp} {s : Shared} {o : OV} {v : V} {u : Value} (I : Inv X pins σ H s) (sm : Same F H) (w : View X.K F H o v) (r : RelV v u) : ∃ as, Reads s.heap u o.er.py as := by
  obtain ⟨as, w⟩ := w
  exact w.reads I sm r
include hu
theorem os_eq : OpS X (compareOp .Eq) eqS := by
  intro pins s σ F H x y v u o o' r Q I sm rx ry w1 w2 e q
  obtain ⟨hz, rfl⟩ := gd_ok e
  have hz : min o.er.py.depth o'.er.py.depth ≤ 60 := of_decide_eq_true hz
  obtain ⟨as, r1⟩ := w1.reads (K := X.K) I sm rx
  obtain ⟨bs, r2⟩ := w2.reads (K := X.K) I sm ry
  exact SeqAt.eq_plain r1 r2 (D.plain _) (D.plain _) (by omega) ⟨.bl _, H, I, rfl, q _ _ _ (grow_bl sm _)⟩
theorem os_ne : OpS X (compareOp .NotEq) neS := by
  intro pins s σ F H x y v u o o' r Q I sm rx ry w1 w2 e q
  obtain ⟨hz, rfl⟩ := gd_ok e
  have hz : min o.er.py.depth o'.er.py.depth ≤ 60 := of_decide_eq_true hz
  obtain ⟨as, r1⟩ := w1.reads (K := X.K) I sm rx
  obtain ⟨bs, r2⟩ := w2.reads (K := X.K) I sm ry
  exact SeqAt.ne_plain r1 r2 (D.plain _) (D.plain _) (by omega) ⟨.bl _, H, I, rfl, q _ _ _ (grow_bl sm _)⟩
omit hu in
theorem cmpOk_of {a b : D} (h : cmpOk a b = true) : PySem.W.alike a.py b.py = true ∧ a.py ≠ .none ∧ min a.py.depth b.py.depth ≤ 60 := by
  unfold cmpOk at h
  rw [Bool.and_eq_true, Bool.and_eq_true] at h
  refine ⟨h.1.1, fun z => ?_, of_decide_eq_true h.2⟩
  cases a <;> simp [D.py] at z
  exact absurd h.1.2 (by simp)
theorem os_lt : OpS X (compareOp .Lt) ltS := by
  intro pins s σ F H x y v u o o' r Q I sm rx ry w1 w2 e q
  obtain ⟨hz, rfl⟩ := gd_ok e
  obtain ⟨h1, h2, h3⟩ := cmpOk_of hz
  obtain ⟨as, r1⟩ := w1.reads (K := X.K) I sm rx
  obtain ⟨bs, r2⟩ := w2.reads (K := X.K) I sm ry
  exact PySem.W.lt_data r1 r2 h1 h2 (by omega) ⟨.bl _, H, I, rfl, q _ _ _ (grow_bl sm _)⟩
theorem os_gt : OpS X (compareOp .Gt) gtS := by
  intro pins s σ F H x y v u o o' r Q I sm rx ry w1 w2 e q
  obtain ⟨hz, rfl⟩ := gd_ok e
  obtain ⟨h1, h2, h3⟩ := cmpOk_of hz
  obtain ⟨as, r1⟩ := w1.reads (K := X.K) I sm rx
  obtain ⟨bs, r2⟩ := w2.reads (K := X.K) I sm ry
  exact PySem.W.gt_data r1 r2 h1 h2 (by omega) ⟨.bl _, H, I, rfl, q _ _ _ (grow_bl sm _)⟩
theorem os_le : OpS X (compareOp .LtE) leS := by
  intro pins s σ F H x y v u o o' r Q I sm rx ry w1 w2 e q
  obtain ⟨hz, rfl⟩ := gd_ok e
  obtain ⟨h1, h2, h3⟩ := cmpOk_of hz
  obtain ⟨as, r1⟩ := w1.reads (K := X.K) I sm rx
  obtain ⟨bs, r2⟩ := w2.reads (K := X.K) I sm ry
  exact PySem.W.le_data r1 r2 h1 h2 (by omega) ⟨.bl _, H, I, rfl, q _ _ _ (grow_bl sm _)⟩
theorem os_ge : OpS X (compareOp .GtE) geS := by
  intro pins s σ F H x y v u o o' r Q I sm rx ry w1 w2 e q
  obtain ⟨hz, rfl⟩ := gd_ok e
  obtain ⟨h1, h2, h3⟩ := cmpOk_of hz
  obtain ⟨as, r1⟩ := w1.reads (K := X.K) I sm rx
  obtain ⟨bs, r2⟩ := w2.reads (K := X.K) I sm ry
  exact PySem.W.ge_data r1 r2 h1 h2 (by omega) ⟨.bl _, H, I, rfl, q _ _ _ (grow_bl sm _)⟩
omit hu in
theorem isNon_of {K : PySem.W.Frag} {F H : Hp} {o : OV} {v : V} (w : View K F H o v) : decide (v = .non) = isNon o := by
  obtain ⟨as, w⟩ := w
  cases o with
  | ls xs =>
    rw [Own] at w
    obtain ⟨a, vs, bs, rfl, _⟩ := w
    rfl
  | fz d =>
    rw [Own.fz_iff] at w
    have w := w.2
    cases d with
    | non => rw [Rep] at w; subst w; rfl
    | bl b => rw [Rep] at w; subst w; rfl
    | int b => rw [Rep] at w; subst w; rfl
    | str b => rw [Rep] at w; subst w; rfl
    | tup b => rw [Rep] at w; obtain ⟨a, vs, rfl, _⟩ := w; rfl
    | lst b => rw [Rep] at w; obtain ⟨a, vs, rfl, _⟩ := w; rfl
omit hu in
theorem isNon_eq {K : PySem.W.Frag} {F H : Hp} {o : OV} {v : V} (w : View K F H o v) (h : isNon o = true) : v = .non := by
  have := isNon_of w
  rw [h] at this
  exact of_decide_eq_true this
omit hu in
theorem os_is : OpS X (compareOp .Is) isS := by
  intro pins s σ F H x y v u o o' r Q I sm rx ry w1 w2 e q
  obtain ⟨hz, rfl⟩ := gd_ok e
  refine op_isN pins s σ H x y v u Q I rx ry ⟨isNon_eq w2 hz, ?_⟩
  rw [isNon_of w1]
  exact q _ _ _ (grow_bl sm _)
omit hu in
theorem os_isnot : OpS X (compareOp .IsNot) isnotS := by
  intro pins s σ F H x y v u o o' r Q I sm rx ry w1 w2 e q
  obtain ⟨hz, rfl⟩ := gd_ok e
  refine op_notN pins s σ H x y v u Q I rx ry ⟨isNon_eq w2 hz, ?_⟩
  rw [isNon_of w1]
  exact q _ _ _ (grow_bl sm _)
omit hu in
theorem any_mem (d : D) : ∀ es : List D, (D.pys es).any (fun y => PyData.eqv y d.py) = D.mem d es
  | [] => rfl
  | x :: xs => by rw [D.pys, List.any_cons, any_mem d xs]; rfl
omit hu in
theorem er_seq {e : D} {es : List D} (h : itemsEr e = some es) : e.py = .list (D.pys es) ∨ e.py = .tuple (D.pys es) := by
  cases e with
  | tup xs => cases h; right; rw [D.py]
  | lst xs => cases h; left; rw [D.py]
  | _ => cases h
omit hu in
theorem er_str {K : PySem.W.Frag} {F H : Hp} {o : OV} {v : V} {x : Str} (w : View K F H o v) (h : o.er = .str x) : v = .str x := by
  cases o with
  | ls xs => rw [OV.er] at h; cases h
  | fz d =>
    have h : d = .str x := by rw [OV.er] at h; exact h
    subst h
    exact w.str
omit hu in
theorem cps_one {x : Str} {c : Nat} (h : x.cps.toList = [c]) : x = ⟨#[c]⟩ := by
  cases x with
  | mk a =>
    have : a = #[c] := by
      apply Array.toList_inj.mp
      simpa using h
    rw [this]
omit hu in
theorem in_text {neg : Bool} {pins : List (Addr × Obj)} {s : Shared} {σ : L2.St} {H : Hp} {x y : Str} {v u : Value} {Q : VK} (I : Inv X pins σ H s) (rx : RelV (.str x) v) (ry : RelV (.str y) u) (q : Q (.bl (neg.xor (inSign x y))) H) :
    wpAny (model X.prog X.w) X.A (compareOp (if neg then .NotIn else .In) v u) (EP X pins σ Q) X.xe s := by
  unfold inSign at q
  cases hx : x.cps.toList with
  | nil =>
    rw [hx] at q
    cases neg with
    | false => exact op_in_str pins s σ H _ _ v u Q I rx ry ⟨x, y, rfl, rfl, by simpa [inStr] using q⟩
    | true => exact op_notin_str pins s σ H _ _ v u Q I rx ry ⟨x, y, rfl, rfl, by simpa [inStr] using q⟩
  | cons c cs =>
    cases cs with
    | nil =>
      rw [hx] at q
      have hc := cps_one hx
      cases neg with
      | false => exact op_in_sign pins s σ H _ _ v u Q I rx ry ⟨c, y, by rw [hc], rfl, by simpa using q⟩
      | true => exact op_notIn_sign pins s σ H _ _ v u Q I rx ry ⟨c, y, by rw [hc], rfl, by simpa using q⟩
    | cons c2 cs =>
      rw [hx] at q
      cases neg with
      | false => exact op_in_str pins s σ H _ _ v u Q I rx ry ⟨x, y, rfl, rfl, by simpa [inStr] using q⟩
      | true => exact op_notin_str pins s σ H _ _ v u Q I rx ry ⟨x, y, rfl, rfl, by simpa [inStr] using q⟩
theorem os_mem (neg : Bool) : OpS X (compareOp (if neg then .NotIn else .In)) (memS neg) := by
  intro pins s σ F H x y v u o o' r Q I sm rx ry w1 w2 e q
  have seqs : ∀ es, itemsEr o'.er = some es → gd (decide (o.er.dep ≤ 60)) (OV.fz (.bl (neg.xor (D.mem o.er es)))) = .ok r → wpAny (model X.prog X.w) X.A (compareOp (if neg then .NotIn else .In) v u) (EP X pins σ Q) X.xe s := fun es he e => by
    obtain ⟨hz, rfl⟩ := gd_ok e
    have hz : o.er.py.depth ≤ 60 := of_decide_eq_true hz
    obtain ⟨as, r1⟩ := w1.reads (K := X.K) I sm rx
    obtain ⟨bs, r2⟩ := w2.reads (K := X.K) I sm ry
    have hr : X.A.units + 1 + min (PyData.depthAll (D.pys es)) o.er.py.depth < cLine := by omega
    have q := q _ _ _ (grow_bl sm (neg.xor (D.mem o.er es)))
    rcases er_seq he with z | z
    · rw [z] at r2
      cases neg with
      | false => exact SeqAt.in_list_data r2 r1 (D.plains _) (D.plain _) hr ⟨.bl _, H, I, rfl, by rw [any_mem]; simpa using q⟩
      | true => exact SeqAt.notIn_list_data r2 r1 (D.plains _) (D.plain _) hr ⟨.bl _, H, I, rfl, by rw [any_mem]; simpa using q⟩
    · rw [z] at r2
      cases neg with
      | false => exact SeqAt.in_tuple_data r2 r1 (D.plains _) (D.plain _) hr ⟨.bl _, H, I, rfl, by rw [any_mem]; simpa using q⟩
      | true => exact SeqAt.notIn_tuple_data r2 r1 (D.plains _) (D.plain _) hr ⟨.bl _, H, I, rfl, by rw [any_mem]; simpa using q⟩
  unfold memS at e
  split at e
  · rename_i x1 y1 hx hy
    cases e
    have a1 := er_str w1 hx
    have a2 := er_str w2 hy
    subst a1 a2
    exact in_text I rx ry (q _ _ _ (grow_bl sm _))
  · cases he : itemsEr o'.er with
    | none => rw [he] at e; cases e
    | some es =>
      rw [he] at e
      exact seqs es he e
end
end Pf

/-! Pf3: and, or, not, if-else; arguments, displays; subscripts and slices; calls of what is built in. -/
namespace Pf
open PySem PySem.Spec PyProof.Rows L2

theorem OpdR.preR {K : PySem.W.Frag} {C : Fx} {F : Hp} {fp : Nat → List Addr} {σ : L2.St} {H : Hp} {p : Pre} {v : V} (h : OpdR K F σ p v) : PreR K C F fp σ H p v := by
  cases p with
  | val r =>
    obtain ⟨d, rfl, q⟩ := h
    exact ⟨[], Own.of_rep q, fun _ z => (nomatch z), fun _ z => (nomatch z), fun _ z => (nomatch z)⟩
  | sl i => exact h
@[simp] theorem opd_opd (p : Pre) : opd (opd p) = opd p := by
  cases p with
  | val r => simp [opd, OV.er]
  | sl i => rfl

section
variable {X : Cx} {io : List Nat} {pos : Pos} {a b : Expr} {rest : List Expr} {f g c : FP}
/-- a and b (or: neg) as values -/
def boF (isOr : Bool) (f g : FP) : FP := fun τ => (f τ).bind fun (p, τ1) => match vw τ1 (opd p) with
  | some o => (truthOf o).bind fun k => if k = isOr then .ok (opd p, τ1) else g τ1
  | none => .bad
theorem bo_open {isOr : Bool} {σ : L2.St} {H : Hp} {Q : VK} (h : rdP X.K io (boF isOr f g) σ H Q) : rdP X.K io f σ H fun x H1 => ∃ k, TruV X.K x H1 k ∧ if k = isOr then Q x H1 else rdP X.K io g σ H1 Q := by
  obtain ⟨C, F, fp, τ, p, τ', hio, R, e, q⟩ := h
  unfold boF at e
  obtain ⟨⟨p1, τ1⟩, e1, e⟩ := Res.bind_ok e
  refine ⟨C, F, fp, τ, p1, τ1, hio, R, e1, fun F1 fp1 H1 v R1 s1 w1 => ?_⟩
  obtain ⟨F2, R2, s2, w2⟩ := R1.opd w1
  dsimp only at e
  cases hx : vw τ1 (opd p1) with
  | none => rw [hx] at e; cases e
  | some o =>
    rw [hx] at e
    obtain ⟨k, e3, e4⟩ := Res.bind_ok e
    refine ⟨k, (R2.vw w2 hx).tru R2.sub e3, ?_⟩
    by_cases hk : k = isOr
    · rw [if_pos hk] at e4 ⊢
      cases e4
      exact q F2 fp1 H1 v R2 (s1.trans s2) w2.preR
    · rw [if_neg hk] at e4 ⊢
      exact ⟨C, F2, fp1, τ1, p, τ', hio, R2, e4, fun F3 fp3 H3 u R3 s3 w3 => q F3 fp3 H3 u R3 ((s1.trans s2).trans s3) w3⟩
theorem xp_and (ha : XP X io a f) (hb : XP X io (.BoolOp .And (b :: rest) pos) g) : XP X io (.BoolOp .And (a :: b :: rest) pos) (boF false f g) := by
  refine pe_weak (pe_andT ha hb) fun σ H Q h => ?_
  obtain ⟨C, F, fp, τ, p, τ', hio, R, e, q⟩ := bo_open h
  refine ⟨C, F, fp, τ, p, τ', hio, R, e, fun F1 fp1 H1 v R1 s1 w1 => ?_⟩
  obtain ⟨k, t, z⟩ := q F1 fp1 H1 v R1 s1 w1
  refine ⟨k, t, ?_⟩
  cases k with
  | true => simpa using z
  | false => simpa using z
theorem xp_or (ha : XP X io a f) (hb : XP X io (.BoolOp .Or (b :: rest) pos) g) : XP X io (.BoolOp .Or (a :: b :: rest) pos) (boF true f g) := by
  refine pe_weak (pe_orT ha hb) fun σ H Q h => ?_
  obtain ⟨C, F, fp, τ, p, τ', hio, R, e, q⟩ := bo_open h
  refine ⟨C, F, fp, τ, p, τ', hio, R, e, fun F1 fp1 H1 v R1 s1 w1 => ?_⟩
  obtain ⟨k, t, z⟩ := q F1 fp1 H1 v R1 s1 w1
  refine ⟨k, t, ?_⟩
  cases k with
  | true => simpa using z
  | false => simpa using z
theorem xp_bo1 {op : BoolOp} (ha : XP X io a f) : XP X io (.BoolOp op [a] pos) f := pe_one ha
theorem tru_bo {isOr : Bool} {σ : L2.St} {H : Hp} {Q : Bool → Hp → Prop} (h : rdT X.K io (tru (boF isOr f g)) σ H Q) : rdT X.K io (tru f) σ H fun k H1 => if k = isOr then Q k H1 else rdT X.K io (tru g) σ H1 Q := by
  obtain ⟨C, F, fp, τ, t, τ', hio, R, e, q⟩ := h
  unfold tru boF at e
  obtain ⟨⟨p2, τ2⟩, e, e2⟩ := Res.bind_ok e
  obtain ⟨⟨p1, τ1⟩, e1, e⟩ := Res.bind_ok e
  dsimp only at e e2
  cases hx : vw τ1 (opd p1) with
  | none => rw [hx] at e; cases e
  | some o =>
    rw [hx] at e
    obtain ⟨k, e3, e4⟩ := Res.bind_ok e
    have ef : tru f τ = .ok (k, τ1) := by
      unfold tru
      rw [e1]
      simp only [Res.ok_bind, hx, e3]
    refine ⟨C, F, fp, τ, k, τ1, hio, R, ef, fun F1 fp1 H1 R1 s1 => ?_⟩
    by_cases hk : k = isOr
    · rw [if_pos hk] at e4 ⊢
      cases e4
      rw [opd_opd, hx] at e2
      dsimp only at e2
      rw [e3] at e2
      cases e2
      exact q F1 fp1 H1 R1 s1
    · rw [if_neg hk] at e4 ⊢
      refine ⟨C, F1, fp1, τ1, t, τ', hio, R1, ?_, fun F3 fp3 H3 R3 s3 => q F3 fp3 H3 R3 (s1.trans s3)⟩
      unfold tru
      rw [e4]
      exact e2
theorem xw_and1 (ha : XT X io a (tru f)) : XW X io (.BoolOp .And [a] pos) (tru f) := pw_and1 ha
theorem xw_or1 (ha : XT X io a (tru f)) : XW X io (.BoolOp .Or [a] pos) (tru f) := pw_or1 ha
theorem xw_and (ha : XT X io a (tru f)) (hb : XW X io (.BoolOp .And (b :: rest) pos) (tru g)) : XW X io (.BoolOp .And (a :: b :: rest) pos) (tru (boF false f g)) := by
  refine pw_weak (pw_and ha hb) fun σ H Q h => ?_
  obtain ⟨C, F, fp, τ, t, τ', hio, R, e, q⟩ := tru_bo h
  refine ⟨C, F, fp, τ, t, τ', hio, R, e, fun F1 fp1 H1 R1 s1 => ?_⟩
  have z := q F1 fp1 H1 R1 s1
  cases t with
  | true => simpa using z
  | false => simpa using z
theorem xw_or (ha : XT X io a (tru f)) (hb : XW X io (.BoolOp .Or (b :: rest) pos) (tru g)) : XW X io (.BoolOp .Or (a :: b :: rest) pos) (tru (boF true f g)) := by
  refine pw_weak (pw_or ha hb) fun σ H Q h => ?_
  obtain ⟨C, F, fp, τ, t, τ', hio, R, e, q⟩ := tru_bo h
  refine ⟨C, F, fp, τ, t, τ', hio, R, e, fun F1 fp1 H1 R1 s1 => ?_⟩
  have z := q F1 fp1 H1 R1 s1
  cases t with
  | true => simpa using z
  | false => simpa using z
def notF (f : FP) : FP := fun τ => (tru f τ).bind fun (k, τ1) => .ok (.val (.fz (.bl (!k))), τ1)
theorem not_open {σ : L2.St} {H : Hp} {Q : VK} (h : rdP X.K io (notF f) σ H Q) : rdT X.K io (tru f) σ H fun k H1 => Q (.bl (!k)) H1 := by
  obtain ⟨C, F, fp, τ, p, τ', hio, R, e, q⟩ := h
  obtain ⟨⟨k, τ1⟩, e1, e⟩ := Res.bind_ok e
  cases e
  refine ⟨C, F, fp, τ, k, _, hio, R, e1, fun F1 fp1 H1 R1 s1 => ?_⟩
  exact q F1 fp1 H1 _ R1 s1 ((grow_bl R1.sub (!k)).rel R1).2
theorem xp_not (ha : XP X io a f) : XP X io (.UnaryOp .Not a pos) (notF f) := by
  refine pe_weak (pe_notT ha) fun σ H Q h => ?_
  have z := tru_open (not_open h)
  obtain ⟨C, F, fp, τ, p, τ', hio, R, e, q⟩ := z
  exact ⟨C, F, fp, τ, p, τ', hio, R, e, q⟩
theorem xt_not (ha : XT X io a (tru f)) : XT X io (.UnaryOp .Not a pos) (tru (notF f)) := by
  refine pt_weak (pt_not ha) fun σ H Q h => ?_
  obtain ⟨C, F, fp, τ, t, τ', hio, R, e, q⟩ := h
  unfold tru at e
  obtain ⟨⟨p, τ2⟩, e, e2⟩ := Res.bind_ok e
  obtain ⟨⟨k, τ1⟩, e1, e⟩ := Res.bind_ok e
  cases e
  cases e2
  exact ⟨C, F, fp, τ, k, _, hio, R, e1, fun F1 fp1 H1 R1 s1 => q F1 fp1 H1 R1 s1⟩
def iteF (c f g : FP) : FP := fun τ => (tru c τ).bind fun (k, τ1) => if k = true then f τ1 else g τ1
theorem xp_ite {e : Expr} (hc : XT X io e (tru c)) (ha : XP X io a f) (hb : XP X io b g) : XP X io (.IfExp e a b pos) (iteF c f g) := by
  refine pe_weak (pe_ifExp hc ha hb) fun σ H Q h => ?_
  obtain ⟨C, F, fp, τ, p, τ', hio, R, e, q⟩ := h
  obtain ⟨⟨k, τ1⟩, e1, e⟩ := Res.bind_ok e
  refine ⟨C, F, fp, τ, k, τ1, hio, R, e1, fun F1 fp1 H1 R1 s1 => ?_⟩
  cases k with
  | true => exact ⟨C, F1, fp1, τ1, p, τ', hio, R1, e, fun F3 fp3 H3 u R3 s3 w3 => q F3 fp3 H3 u R3 (s1.trans s3) w3⟩
  | false => exact ⟨C, F1, fp1, τ1, p, τ', hio, R1, e, fun F3 fp3 H3 u R3 s3 w3 => q F3 fp3 H3 u R3 (s1.trans s3) w3⟩
/-- -a -/
def negF (f : FP) : FP := fun τ => (f τ).bind fun (p, τ1) => match vw τ1 (opd p) with
  | some (.fz (.int i)) => .ok (.val (.fz (.int (-i))), τ1)
  | _ => .bad
theorem xp_neg (ha : XP X io a f) : XP X io (.UnaryOp .USub a pos) (negF f) := by
  refine pe_weak (pe_un un_neg ha) fun σ H Q h => ?_
  obtain ⟨C, F, fp, τ, p, τ', hio, R, e, q⟩ := h
  obtain ⟨⟨p1, τ1⟩, e1, e⟩ := Res.bind_ok e
  refine ⟨C, F, fp, τ, p1, τ1, hio, R, e1, fun F1 fp1 H1 v R1 s1 w1 => ?_⟩
  obtain ⟨F2, R2, s2, w2⟩ := R1.opd w1
  dsimp only at e
  split at e
  · rename_i i hx
    cases e
    have hv := (R2.vw w2 hx).int
    exact ⟨i, hv, q F2 fp1 H1 _ R2 (s1.trans s2) ((grow_int R2.sub (-i)).rel R2).2⟩
  · cases e

/-! ### arguments -/
abbrev FA := T → Res (List Pre × T)
def OpdRs (K : PySem.W.Frag) (F : Hp) (σ : L2.St) : List Pre → List V → Prop
  | [], vs => vs = []
  | p :: ps, vs => ∃ v ws, vs = v :: ws ∧ OpdR K F σ p v ∧ OpdRs K F σ ps ws
def rdA (K : PySem.W.Frag) (io : List Nat) (h : FA) : TA := fun σ H Q => ∃ C F fp τ ps τ', C.ios.map (·.1) = io ∧ Rel K C F fp τ σ H ∧ h τ = .ok (ps, τ') ∧
  ∀ F' fp' H' vs, Rel K C F' fp' τ' σ H' → Same F F' → OpdRs K F' σ ps vs → Q vs H'
def XA (X : Cx) (io : List Nat) (es : List Expr) (h : FA) : Prop := PA X es (rdA X.K io h)
/-- kept as it is looked at (pk), or as data -/
def kept (io : List Nat) (pk : Bool) (p : Pre) (τ : T) : Res (Pre × T) := if pk = true then .ok (opd p, τ) else (settle io p τ).bind fun (d, τ') => .ok (.val (.fz d), τ')
theorem Rel.kept {C : Fx} {F : Hp} {fp : Nat → List Addr} {τ τ' : T} {σ : L2.St} {H : Hp} {p p' : Pre} {v : V} {pk : Bool} {K : PySem.W.Frag} (hio : C.ios.map (·.1) = io) (R : Rel K C F fp τ σ H) (h : PreR K C F fp σ H p v) (e : Pf.kept io pk p τ = .ok (p', τ')) :
    ∃ F' fp', Rel K C F' fp' τ' σ H ∧ Same F F' ∧ OpdR K F' σ p' v := by
  unfold Pf.kept at e
  cases pk with
  | true =>
    cases e
    obtain ⟨F', R', s, w⟩ := R.opd h
    exact ⟨F', fp, R', s, w⟩
  | false =>
    obtain ⟨⟨d, τ1⟩, e1, e⟩ := Res.bind_ok e
    cases e
    obtain ⟨F', fp', R', s, w⟩ := R.settle hio h e1
    exact ⟨F', fp', R', s, d, rfl, w⟩
def nilA : FA := fun τ => .ok ([], τ)
def consA (io : List Nat) (pk : Bool) (f : FP) (h : FA) : FA := fun τ => (f τ).bind fun (p, τ1) => (kept io pk p τ1).bind fun (p', τ2) => (h τ2).bind fun (ps, τ3) => .ok (p' :: ps, τ3)
theorem xa_nil : XA X io [] nilA := pa_weak pa_nil fun σ H Q ⟨C, F, fp, τ, ps, τ', hio, R, e, q⟩ => by
  cases e
  exact q F fp H [] R (Same.refl _) rfl
def notStar : Expr → Bool
  | .Starred _ _ => false
  | _ => true
theorem star_cons {e : Expr} {es : List Expr} {env : Env} (h : notStar e = true) : starEach (e :: es) env = (false, eval e env) :: starEach es env := by
  cases e <;> first | rfl | (exact absurd h (by simp [notStar]))
theorem xa_cons {e : Expr} {es : List Expr} {pk : Bool} {h : FA} (hn : notStar e = true) (ha : XP X io e f) (hr : XA X io es h) : XA X io (e :: es) (consA io pk f h) := by
  refine pa_weak (pa_cons ha hr (star_cons hn)) fun σ H Q hh => ?_
  obtain ⟨C, F, fp, τ, ps, τ', hio, R, e, q⟩ := hh
  obtain ⟨⟨p1, τ1⟩, e1, e⟩ := Res.bind_ok e
  obtain ⟨⟨p2, τ2⟩, e2, e⟩ := Res.bind_ok e
  obtain ⟨⟨qs, τ3⟩, e3, e⟩ := Res.bind_ok e
  cases e
  refine ⟨C, F, fp, τ, p1, τ1, hio, R, e1, fun F1 fp1 H1 v R1 s1 w1 => ?_⟩
  obtain ⟨F2, fp2, R2, s2, w2⟩ := R1.kept hio w1 e2
  refine ⟨C, F2, fp2, τ2, qs, _, hio, R2, e3, fun F3 fp3 H3 vs R3 s3 w3 => ?_⟩
  exact q F3 fp3 H3 (v :: vs) R3 ((s1.trans s2).trans s3) ⟨v, vs, rfl, w2.mono s3, w3⟩
theorem star_any {env : Env} {pos : Pos} : ∀ {es : List Expr}, es.all notStar = true → (backTo pos (starEach es env)).any (·.1) = false
  | [], _ => rfl
  | e :: es, h => by
    rw [List.all_cons, Bool.and_eq_true] at h
    rw [star_cons h.1]
    show (backTo pos (starEach es env)).any (·.1) = false
    exact star_any h.2
theorem star_all {env : Env} {pos : Pos} : ∀ {es : List Expr}, es.all notStar = true → (backTo pos (starEach es env)).all (fun x => !x.1) = true
  | [], _ => rfl
  | e :: es, h => by
    rw [List.all_cons, Bool.and_eq_true] at h
    rw [star_cons h.1]
    show (backTo pos (starEach es env)).all (fun x => !x.1) = true
    exact star_all h.2
/-- all data -/
def datas : List Pre → Option (List D)
  | [] => some []
  | .val (.fz d) :: ps => (datas ps).map (d :: ·)
  | _ :: _ => none
theorem OpdRs.datas {K : PySem.W.Frag} {F : Hp} {σ : L2.St} : ∀ {ps : List Pre} {vs : List V} {ds : List D}, OpdRs K F σ ps vs → Pf.datas ps = some ds → Reps K F ds vs
  | [], vs, ds, h, e => by
    cases e
    rw [OpdRs] at h
    subst h
    exact Reps.nil
  | .val (.fz d) :: ps, vs, ds, h, e => by
    rw [Pf.datas] at e
    rw [OpdRs] at h
    obtain ⟨v, ws, rfl, ⟨d', e', r⟩, rs⟩ := h
    cases e'
    cases z : Pf.datas ps with
    | none => rw [z] at e; cases e
    | some es =>
      rw [z] at e
      cases e
      exact Reps.cons r (OpdRs.datas rs z)
  | .val (.ls _) :: ps, vs, ds, h, e => by cases e
  | .sl _ :: ps, vs, ds, h, e => by cases e
def tupF (h : FA) : FP := fun τ => (h τ).bind fun (ps, τ1) => match datas ps with
  | some ds => gd (decide (ds.length ≤ sizeLine)) (.val (.fz (.tup ds)), τ1)
  | none => .bad
def lstF (h : FA) : FP := fun τ => (h τ).bind fun (ps, τ1) => match datas ps with
  | some ds => gd (decide (ds.length ≤ sizeLine)) (.val (.ls (ds.map OV.fz)), τ1)
  | none => .bad
theorem xp_tup {es : List Expr} {k : Nat} {h : FA} (ha : XA X io es h) : XP X io (.Tuple es k pos) (tupF h) := by
  refine pe_weak (pe_tup ha) fun σ H Q hh => ?_
  obtain ⟨C, F, fp, τ, p, τ', hio, R, e, q⟩ := hh
  obtain ⟨⟨ps, τ1⟩, e1, e⟩ := Res.bind_ok e
  dsimp only at e
  cases hd : datas ps with
  | none => rw [hd] at e; cases e
  | some ds =>
    rw [hd] at e
    obtain ⟨hz, e⟩ := gd_ok e
    cases e
    refine ⟨C, F, fp, τ, ps, _, hio, R, e1, fun F1 fp1 H1 vs R1 s1 w1 => ?_⟩
    have r := w1.datas hd
    refine ⟨by rw [← r.length]; exact of_decide_eq_true hz, fun a na => ?_⟩
    have g := Grow.tup R1.sub na r
    obtain ⟨R2, as, t⟩ := g.rel R1
    exact q _ fp1 _ _ R2 (s1.trans g.frozen) ⟨as, t⟩
theorem xp_lst {es : List Expr} {h : FA} (ha : XA X io es h) : XP X io (.List es pos) (lstF h) := by
  refine pe_weak (pe_lst ha) fun σ H Q hh => ?_
  obtain ⟨C, F, fp, τ, p, τ', hio, R, e, q⟩ := hh
  obtain ⟨⟨ps, τ1⟩, e1, e⟩ := Res.bind_ok e
  dsimp only at e
  cases hd : datas ps with
  | none => rw [hd] at e; cases e
  | some ds =>
    rw [hd] at e
    obtain ⟨hz, e⟩ := gd_ok e
    cases e
    refine ⟨C, F, fp, τ, ps, _, hio, R, e1, fun F1 fp1 H1 vs R1 s1 w1 => ?_⟩
    have r := w1.datas hd
    refine ⟨by rw [← r.length]; exact of_decide_eq_true hz, fun a na => ?_⟩
    have g := Grow.lst R1.sub na r
    obtain ⟨R2, as, t⟩ := g.rel R1
    exact q _ fp1 _ _ R2 (s1.trans g.frozen) ⟨as, t⟩

/-! ### subscripts -/
def atD {α : Type} (xs : List α) (i : Int) : Option α := atI xs i
def idxS (o o' : OV) : Res OV := match o, o' with
  | .ls xs, .fz (.int i) => match atI xs i with
    | some (.fz d) => .ok (.fz d)
    | _ => .bad
  | .fz (.lst ds), .fz (.int i) => match atI ds i with
    | some d => .ok (.fz d)
    | none => .bad
  | .fz (.tup ds), .fz (.int i) => match atI ds i with
    | some d => .ok (.fz d)
    | none => .bad
  | .fz (.str z), .fz (.int i) => if z.length ≤ sizeLine then match atI z.cps.toList i with
    | some c => .ok (.fz (.str ⟨#[c]⟩))
    | none => .bad else .bad
  | _, _ => .bad
theorem Owns.get {K : PySem.W.Frag} {F H : Hp} : ∀ {os : List OV} {vs : List V} {as : List Addr} {i : Nat} {o : OV}, Owns K F H os vs as → os[i]? = some o → ∃ v bs, vs[i]? = some v ∧ Own K F H o v bs
  | [], _, _, _, _, _, e => by simp at e
  | x :: xs, vs, as, 0, o, h, e => by
    rw [Owns] at h
    obtain ⟨v, ws, bs, cs, rfl, e2, r, rs, n⟩ := h
    simp at e; subst e
    exact ⟨v, bs, rfl, r⟩
  | x :: xs, vs, as, i + 1, o, h, e => by
    rw [Owns] at h
    obtain ⟨v, ws, bs, cs, rfl, e2, r, rs, n⟩ := h
    obtain ⟨u, ds, e3, r3⟩ := Owns.get (i := i) rs (by simpa using e)
    exact ⟨u, ds, by simpa using e3, r3⟩
theorem atI_len {α β : Type} {xs : List α} {ys : List β} {i : Int} {x : α} (hl : xs.length = ys.length) (h : atI xs i = some x) : ∃ j : Nat, xs[j]? = some x ∧ atI ys i = ys[j]? := by
  unfold atI at h ⊢
  rw [← hl]
  cases e : ixN xs.length i with
  | none => rw [e] at h; cases h
  | some j =>
    rw [e] at h
    exact ⟨j, h, rfl⟩
theorem Reps.at {K : PySem.W.Frag} {F : Hp} {ds : List D} {vs : List V} {i : Int} {d : D} (r : Reps K F ds vs) (h : atI ds i = some d) : ∃ v, atI vs i = some v ∧ Rep K F d v := by
  obtain ⟨j, e, e2⟩ := atI_len r.length h
  obtain ⟨v, e3, r3⟩ := r.get e
  exact ⟨v, by rw [e2, e3], r3⟩
/-- o[i] by what is looked at -/
theorem ix_view : IxR X (rO X.K idxS) := by
  intro value slice pins s σ H x y v u Q I rx ry h hs
  obtain ⟨F, o, o', r, sm, w1, w2, e, q⟩ := h
  refine ix_seq value slice pins s σ H x y v u Q I rx ry ?_ hs
  unfold idxS at e
  split at e
  · rename_i xs i
    split at e
    · rename_i d hd
      cases e
      obtain ⟨as, w1⟩ := w1
      rw [Own] at w1
      obtain ⟨a, vs, bs, rfl, e2, g, n, rr⟩ := w1
      obtain ⟨j, ej, ej2⟩ := atI_len rr.length hd
      obtain ⟨z, bs', ez, rz⟩ := rr.get ej
      rw [Own.fz_iff] at rz
      exact .inl ⟨a, vs, i, z, rfl, w2.int, SqL.of g, by rw [ej2, ez], q _ _ _ (Grow.same sm rz.2)⟩
    · cases e
  · rename_i ds i
    split at e
    · rename_i d hd
      cases e
      obtain ⟨a, vs, rfl, l, rr⟩ := w1.list sm rfl
      obtain ⟨z, ez, rz⟩ := rr.at hd
      exact .inl ⟨a, vs, i, z, rfl, w2.int, l.sql, ez, q _ _ _ (Grow.same sm rz)⟩
    · cases e
  · rename_i ds i
    split at e
    · rename_i d hd
      cases e
      obtain ⟨a, vs, rfl, l, rr⟩ := w1.tup sm
      obtain ⟨z, ez, rz⟩ := rr.at hd
      exact .inr (.inl ⟨a, vs, i, z, rfl, w2.int, l, ez, q _ _ _ (Grow.same sm rz)⟩)
    · cases e
  · rename_i z i
    split at e
    · rename_i hz
      split at e
      · rename_i cc hc
        cases e
        exact .inr (.inr ⟨z, i, cc, w1.str, w2.int, hz, hc, q _ _ _ (grow_str sm _)⟩)
      · cases e
    · cases e
  · cases e
def noSlice : Expr → Bool
  | .Slice _ _ _ _ => false
  | .Tuple _ _ _ => false
  | _ => true
theorem plainIx {e : Expr} (h : noSlice e = true) : PlainIx e := by
  intro o i
  cases e <;> first | rfl | (exact absurd h (by simp [noSlice]))
theorem xp_idx (hn : noSlice b = true) (ha : XP X io a f) (hb : XP X io b g) : XP X io (.Subscript a b pos) (two f g idxS) :=
  pe_weak (pe_ix ix_view ha hb (plainIx hn)) fun _ _ _ h => two_weak h
end
end Pf

/-! Pf4: slices; built-in functions. -/
namespace Pf
open PySem PySem.Spec PyProof.Rows L2

/-! ### slices -/
def cutD (ds : List D) (lo hi : Option Int) : List D := (ds.drop (HT.sIx ds.length 0 lo)).take (HT.sIx ds.length ds.length hi - HT.sIx ds.length 0 lo)
theorem Reps.cut {K : PySem.W.Frag} {F : Hp} {ds : List D} {vs : List V} (r : Reps K F ds vs) (lo hi : Option Int) : Reps K F (cutD ds lo hi) (cutV vs lo hi) := by
  unfold cutD cutV
  rw [r.length]
  exact (r.drop _).take _
def sliceS (o : OV) (lo hi : Option Int) : Res OV := match o with
  | .fz (.tup ds) => .ok (.fz (.tup (cutD ds lo hi)))
  | .fz (.str z) => gd (decide (z.length ≤ sizeLine)) (.fz (.str (cutS z lo hi)))
  | o => match listOf o with
    | some ds => .ok (.ls ((cutD ds lo hi).map OV.fz))
    | none => .bad
abbrev FO := T → Res (Option Int × T)
def noneO : FO := fun τ => .ok (none, τ)
def someO (f : FP) : FO := fun τ => (f τ).bind fun (p, τ1) => match vw τ1 (opd p) with
  | some (.fz (.int i)) => .ok (some i, τ1)
  | _ => .bad
def rdO (K : PySem.W.Frag) (io : List Nat) (h : FO) : L2.TO := fun σ H Q => ∃ C F fp τ i τ', C.ios.map (·.1) = io ∧ Rel K C F fp τ σ H ∧ h τ = .ok (i, τ') ∧
  ∀ F' fp' H', Rel K C F' fp' τ' σ H' → Same F F' → Q i H'
def XO (X : Cx) (io : List Nat) (e : Option Expr) (h : FO) : Prop := PO X e (rdO X.K io h)
theorem po_weak {X : Cx} {e : Option Expr} {t t' : L2.TO} (h : PO X e t) (w : ∀ σ H Q, t' σ H Q → t σ H Q) : PO X e t' := ⟨fun pins s σ H Q I q => h.run pins s σ H Q I (w σ H Q q)⟩
def sliF (f : FP) (l u : FO) : FP := fun τ => (f τ).bind fun (p, τ1) => (l τ1).bind fun (lo, τ2) => (u τ2).bind fun (hi, τ3) => match vw τ3 (opd p) with
  | some o => (sliceS o lo hi).bind fun r => .ok (.val r, τ3)
  | none => .bad
section
variable {X : Cx} {io : List Nat} {pos p2 : Pos} {a b : Expr} {rest : List Expr} {f g c : FP}
theorem xo_none : XO X io none noneO := po_weak po_none fun σ H Q ⟨C, F, fp, τ, i, τ', hio, R, e, q⟩ => by
  cases e
  exact q F fp H R (Same.refl _)
theorem xo_some (ha : XP X io a f) : XO X io (some a) (someO f) := po_weak (po_some ha) fun σ H Q ⟨C, F, fp, τ, i, τ', hio, R, e, q⟩ => by
  obtain ⟨⟨p1, τ1⟩, e1, e⟩ := Res.bind_ok e
  refine ⟨C, F, fp, τ, p1, τ1, hio, R, e1, fun F1 fp1 H1 v R1 s1 w1 => ?_⟩
  obtain ⟨F2, R2, s2, w2⟩ := R1.opd w1
  dsimp only at e
  split at e
  · rename_i j hx
    cases e
    exact ⟨j, (R2.vw w2 hx).int, q F2 fp1 H1 R2 (s1.trans s2)⟩
  · cases e
def rSv (K : PySem.W.Frag) : V → Option Int → Option Int → Hp → VK → Prop := fun x lo hi H Q => ∃ F o r, Same F H ∧ View K F H o x ∧ sliceS o lo hi = .ok r ∧ ∀ z F' H', Grow K F H r z F' H' → Q z H'
theorem sl_view : SlR X (rSv X.K) := by
  intro pins s σ H x v vl vu lo hi sl Q I rx hs pl pu h
  obtain ⟨F, o, r, sm, w, e, q⟩ := h
  unfold sliceS at e
  split at e
  · rename_i ds
    cases e
    obtain ⟨a, vs, rfl, l, rr⟩ := w.tup sm
    refine sl_tupA pins s σ H _ v vl vu lo hi sl Q I rx hs pl pu ⟨a, vs, rfl, l, fun z => ?_, fun z p np => q _ _ _ (Grow.tup sm np (rr.cut lo hi))⟩
    refine q _ _ _ (Grow.same sm ?_)
    have ec : cutD ds lo hi = ds := by
      unfold cutD
      rw [rr.length, z.1, z.2, List.drop_zero, Nat.sub_zero, ← rr.length, List.take_length]
    rw [ec]
    exact w.fz
  · rename_i z
    obtain ⟨hz, rfl⟩ := gd_ok e
    exact sl_str pins s σ H _ v vl vu lo hi sl Q I rx hs pl pu ⟨z, w.str, of_decide_eq_true hz, q _ _ _ (grow_str sm _)⟩
  · cases hl : listOf o with
    | none => rw [hl] at e; cases e
    | some ds =>
      rw [hl] at e
      cases e
      obtain ⟨a, vs, rfl, l, rr⟩ := w.list sm hl
      exact sl_list pins s σ H _ v vl vu lo hi sl Q I rx hs pl pu ⟨a, vs, rfl, l.sql, fun p np => q _ _ _ (Grow.lst sm np (rr.cut lo hi))⟩
theorem xp_slice {lo hi : Option Expr} {l u : FO} (ha : XP X io a f) (hl : XO X io lo l) (hu : XO X io hi u) : XP X io (.Subscript a (.Slice lo hi none p2) pos) (sliF f l u) := by
  refine pe_weak (pe_slice sl_view ha hl hu) fun σ H Q h => ?_
  obtain ⟨C, F, fp, τ, p, τ', hio, R, e, q⟩ := h
  obtain ⟨⟨p1, τ1⟩, e1, e⟩ := Res.bind_ok e
  obtain ⟨⟨i1, τ2⟩, e2, e⟩ := Res.bind_ok e
  obtain ⟨⟨i2, τ3⟩, e3, e⟩ := Res.bind_ok e
  refine ⟨C, F, fp, τ, p1, τ1, hio, R, e1, fun F1 fp1 H1 v R1 s1 w1 => ?_⟩
  obtain ⟨F1', R1', s1', w1'⟩ := R1.opd w1
  refine ⟨C, F1', fp1, τ1, i1, τ2, hio, R1', e2, fun F2 fp2 H2 R2 s2 => ?_⟩
  refine ⟨C, F2, fp2, τ2, i2, τ3, hio, R2, e3, fun F3 fp3 H3 R3 s3 => ?_⟩
  dsimp only at e
  cases hx : vw τ3 (opd p1) with
  | none => rw [hx] at e; cases e
  | some o =>
    rw [hx] at e
    obtain ⟨r, e4, e5⟩ := Res.bind_ok e
    cases e5
    refine ⟨F3, o, r, R3.sub, R3.vw (w1'.mono (s2.trans s3)) hx, e4, fun z F4 H4 g4 => ?_⟩
    obtain ⟨R4, as, t4⟩ := g4.rel R3
    exact q F4 fp3 H4 z R4 (((s1.trans s1').trans (s2.trans s3)).trans g4.frozen) ⟨as, t4⟩

/-! ### what is built in -/
def vws (τ : T) : List Pre → Option (List OV)
  | [] => some []
  | p :: ps => match vw τ p, vws τ ps with
    | some o, some os => some (o :: os)
    | _, _ => none
def Views (K : PySem.W.Frag) (F H : Hp) : List OV → List V → Prop
  | [], vs => vs = []
  | o :: os, vs => ∃ v ws, vs = v :: ws ∧ View K F H o v ∧ Views K F H os ws
theorem Rel.vws {K : PySem.W.Frag} {C : Fx} {F : Hp} {fp : Nat → List Addr} {τ : T} {σ : L2.St} {H : Hp} (R : Rel K C F fp τ σ H) : ∀ {ps : List Pre} {vs : List V} {os : List OV}, OpdRs K F σ ps vs → Pf.vws τ ps = some os → Views K F H os vs
  | [], vs, os, h, e => by
    cases e
    rw [OpdRs] at h
    exact h
  | p :: ps, vs, os, h, e => by
    rw [Pf.vws] at e
    rw [OpdRs] at h
    obtain ⟨v, ws, rfl, r, rs⟩ := h
    split at e
    · rename_i o os' h1 h2
      cases e
      exact ⟨v, ws, rfl, R.vw r h1, R.vws rs h2⟩
    · cases e
def CallS (X : Cx) (fn : Value) (k : List OV → Res OV) : Prop :=
  ∀ (pins : List (Addr × Obj)) (s : Shared) (σ : L2.St) (F H : Hp) (vs : List V) (us : List Value) (os : List OV) (r : OV) (Q : VK), Inv X pins σ H s → Same F H → Vals vs us → Views X.K F H os vs → k os = .ok r →
    (∀ z F' H', Grow X.K F H r z F' H' → Q z H') → wpAny (model X.prog X.w) X.A (call fn us) (EP X pins σ Q) X.xe s
def biF (h : FA) (k : List OV → Res OV) : FP := fun τ => (h τ).bind fun (ps, τ1) => match vws τ1 ps with
  | some os => (k os).bind fun r => .ok (.val r, τ1)
  | none => .bad
def rCv (K : PySem.W.Frag) (k : List OV → Res OV) : List V → Hp → VK → Prop := fun vs H Q => ∃ F os r, Same F H ∧ Views K F H os vs ∧ k os = .ok r ∧ ∀ z F' H', Grow K F H r z F' H' → Q z H'
theorem CallS.callR {fn : Value} {k : List OV → Res OV} (h : CallS X fn k) : CallR X fn (rCv X.K k) := fun pins s σ H xs us Q I r ⟨F, os, r', sm, w, e, q⟩ => h pins s σ F H xs us os r' Q I sm r w e q
theorem bi_open {h : FA} {k : List OV → Res OV} {σ : L2.St} {H : Hp} {Q : VK} (hh : rdP X.K io (biF h k) σ H Q) : tCB (rCv X.K k) (rdA X.K io h) σ H Q := by
  obtain ⟨C, F, fp, τ, p, τ', hio, R, e, q⟩ := hh
  obtain ⟨⟨ps, τ1⟩, e1, e⟩ := Res.bind_ok e
  refine ⟨C, F, fp, τ, ps, τ1, hio, R, e1, fun F1 fp1 H1 vs R1 s1 w1 => ?_⟩
  dsimp only at e
  cases hx : vws τ1 ps with
  | none => rw [hx] at e; cases e
  | some os =>
    rw [hx] at e
    obtain ⟨r, e4, e5⟩ := Res.bind_ok e
    cases e5
    refine ⟨F1, os, r, R1.sub, R1.vws w1 hx, e4, fun z F4 H4 g4 => ?_⟩
    obtain ⟨R4, as, t4⟩ := g4.rel R1
    exact q F4 fp1 H4 z R4 (s1.trans g4.frozen) ⟨as, t4⟩
/-- the name of something built in -/
structure Bltn (X : Cx) (x : Str) (v : Value) : Prop where
  gl : Gl X x
  mg : X.mg x = none
  bt : bootBuiltins x = some v
  nm : x ≠ "__name__"
  db : (x == ("__debug__" : Str)) = false
theorem xp_callB {x : Str} {p : Pos} {id : String} {e : Expr} {es : List Expr} {h : FA} {k : List OV → Res OV} (B : Bltn X x (.builtin id)) (hc : CallS X (.builtin id) k) (hs : (e :: es).all notStar = true) (ha : XA X io (e :: es) h) :
    XP X io (.Call (.Name x p) (e :: es) [] pos) (biF h k) := by
  have hs' := hs
  rw [List.all_cons, Bool.and_eq_true] at hs'
  exact pe_weak (pe_callB hc.callR B.gl B.mg B.bt ha B.nm B.db (star_cons hs'.1) (star_any hs'.2)) fun _ _ _ hh => bi_open hh
theorem xp_callTy {x : Str} {p : Pos} {id : String} {e : Expr} {es : List Expr} {h : FA} {k : List OV → Res OV} (B : Bltn X x (.type id)) (hc : CallS X (.type id) k) (hs : (e :: es).all notStar = true) (ha : XA X io (e :: es) h) :
    XP X io (.Call (.Name x p) (e :: es) [] pos) (biF h k) := by
  have hs' := hs
  rw [List.all_cons, Bool.and_eq_true] at hs'
  exact pe_weak (pe_callTy hc.callR B.gl B.mg B.bt ha B.nm B.db (star_cons hs'.1) (star_any hs'.2)) fun _ _ _ hh => bi_open hh

theorem Views.one {K : PySem.W.Frag} {F H : Hp} {o : OV} {vs : List V} (h : Views K F H [o] vs) : ∃ v, vs = [v] ∧ View K F H o v := by
  obtain ⟨v, ws, rfl, w, z⟩ := h
  have z : ws = [] := z
  subst z
  exact ⟨v, rfl, w⟩
theorem Views.two {K : PySem.W.Frag} {F H : Hp} {o o' : OV} {vs : List V} (h : Views K F H [o, o'] vs) : ∃ v u, vs = [v, u] ∧ View K F H o v ∧ View K F H o' u := by
  obtain ⟨v, ws, rfl, w, z⟩ := h
  obtain ⟨u, rfl, w2⟩ := Views.one z
  exact ⟨v, u, rfl, w, w2⟩
theorem Views.three {K : PySem.W.Frag} {F H : Hp} {o o' o2 : OV} {vs : List V} (h : Views K F H [o, o', o2] vs) : ∃ v u t, vs = [v, u, t] ∧ View K F H o v ∧ View K F H o' u ∧ View K F H o2 t := by
  obtain ⟨v, ws, rfl, w, z⟩ := h
  obtain ⟨u, t, rfl, w2, w3⟩ := Views.two z
  exact ⟨v, u, t, rfl, w, w2, w3⟩
def lenOf : OV → Option Nat
  | .fz (.str z) => if z.length ≤ sizeLine then some z.length else none
  | .fz (.tup ds) => some ds.length
  | .fz (.lst ds) => some ds.length
  | .ls xs => some xs.length
  | _ => none
def lenS : List OV → Res OV
  | [o] => match lenOf o with
    | some n => .ok (.fz (.int n))
    | none => .bad
  | _ => .bad
theorem cs_len : CallS X (.builtin "len") lenS := by
  intro pins s σ F H vs us os r Q I sm rv wv e q
  unfold lenS at e
  split at e
  · rename_i o
    obtain ⟨v, rfl, w⟩ := wv.one
    cases hl : lenOf o with
    | none => rw [hl] at e; cases e
    | some n =>
      rw [hl] at e
      cases e
      refine call_len pins s σ H _ us Q I rv ⟨v, n, rfl, ?_, q _ _ _ (grow_int sm _)⟩
      unfold lenOf at hl
      split at hl
      · rename_i z
        split at hl
        · cases hl
          rw [w.str]
          exact ⟨by assumption, rfl⟩
        · cases hl
      · cases hl
        obtain ⟨a, vs, rfl, l, rr⟩ := w.tup sm
        exact .inr ⟨vs, l, rr.length⟩
      · cases hl
        obtain ⟨a, vs, rfl, l, rr⟩ := w.list sm rfl
        exact .inl ⟨vs, l.sql, rr.length⟩
      · cases hl
        obtain ⟨as, w⟩ := w
        rw [Own] at w
        obtain ⟨a, vs, bs, rfl, e2, g, n, rr⟩ := w
        exact .inl ⟨vs, SqL.of g, rr.length⟩
      · cases hl
  · cases e
def intS : List OV → Res OV
  | [.fz (.int i)] => .ok (.fz (.int i))
  | [.fz (.bl b)] => .ok (.fz (.int (if b then 1 else 0)))
  | _ => .bad
theorem cs_int : CallS X (.type "int") intS := by
  intro pins s σ F H vs us os r Q I sm rv wv e q
  unfold intS at e
  split at e
  · obtain ⟨v, rfl, w⟩ := wv.one
    cases e
    exact call_int1 pins s σ H _ us Q I rv (.inl ⟨_, by rw [w.int], q _ _ _ (grow_int sm _)⟩)
  · obtain ⟨v, rfl, w⟩ := wv.one
    cases e
    exact call_int1 pins s σ H _ us Q I rv (.inr ⟨_, by rw [w.bl], q _ _ _ (grow_int sm _)⟩)
  · cases e
def absS : List OV → Res OV
  | [.fz (.int i)] => .ok (.fz (.int (if i < 0 then -i else i)))
  | _ => .bad
theorem cs_abs : CallS X (.builtin "abs") absS := by
  intro pins s σ F H vs us os r Q I sm rv wv e q
  unfold absS at e
  split at e
  · obtain ⟨v, rfl, w⟩ := wv.one
    cases e
    exact call_abs pins s σ H _ us Q I rv ⟨_, by rw [w.int], q _ _ _ (grow_int sm _)⟩
  · cases e
/-- ints only -/
def intsOf : List D → Option (List Int)
  | [] => some []
  | .int i :: ds => (intsOf ds).map (i :: ·)
  | _ :: _ => none
theorem intsOf_eq : ∀ {ds : List D} {ns : List Int}, intsOf ds = some ns → ds = ns.map D.int
  | [], ns, h => by cases h; rfl
  | .int i :: ds, ns, h => by
    rw [intsOf] at h
    cases e : intsOf ds with
    | none => rw [e] at h; cases h
    | some es => rw [e] at h; cases h; rw [intsOf_eq e]; rfl
  | .non :: _, _, h => by cases h
  | .bl _ :: _, _, h => by cases h
  | .str _ :: _, _, h => by cases h
  | .tup _ :: _, _, h => by cases h
  | .lst _ :: _, _, h => by cases h
@[simp] theorem intsOf_map : ∀ ns : List Int, intsOf (ns.map D.int) = some ns
  | [] => rfl
  | n :: ns => by rw [List.map_cons, intsOf, intsOf_map ns]; rfl
theorem Reps.ints {K : PySem.W.Frag} {F : Hp} : ∀ {ns : List Int} {vs : List V}, Reps K F (ns.map D.int) vs → vs = ns.map V.int
  | [], vs, h => by rw [List.map_nil, Reps] at h; exact h
  | n :: ns, vs, h => by
    rw [List.map_cons, Reps] at h
    obtain ⟨v, ws, rfl, r, rs⟩ := h
    rw [Rep] at r
    rw [r, Reps.ints rs]; rfl
def blsOf : List D → Option (List Bool)
  | [] => some []
  | .bl i :: ds => (blsOf ds).map (i :: ·)
  | _ :: _ => none
theorem blsOf_eq : ∀ {ds : List D} {ns : List Bool}, blsOf ds = some ns → ds = ns.map D.bl
  | [], ns, h => by cases h; rfl
  | .bl i :: ds, ns, h => by
    rw [blsOf] at h
    cases e : blsOf ds with
    | none => rw [e] at h; cases h
    | some es => rw [e] at h; cases h; rw [blsOf_eq e]; rfl
  | .non :: _, _, h => by cases h
  | .int _ :: _, _, h => by cases h
  | .str _ :: _, _, h => by cases h
  | .tup _ :: _, _, h => by cases h
  | .lst _ :: _, _, h => by cases h
@[simp] theorem blsOf_map : ∀ ns : List Bool, blsOf (ns.map D.bl) = some ns
  | [] => rfl
  | n :: ns => by rw [List.map_cons, blsOf, blsOf_map ns]; rfl
theorem Reps.bls {K : PySem.W.Frag} {F : Hp} : ∀ {ns : List Bool} {vs : List V}, Reps K F (ns.map D.bl) vs → vs = ns.map V.bl
  | [], vs, h => by rw [List.map_nil, Reps] at h; exact h
  | n :: ns, vs, h => by
    rw [List.map_cons, Reps] at h
    obtain ⟨v, ws, rfl, r, rs⟩ := h
    rw [Rep] at r
    rw [r, Reps.bls rs]; rfl
def maxInts : Int → List Int → Int
  | m, [] => m
  | m, n :: ns => maxInts (if n > m then n else m) ns
def minInts : Int → List Int → Int
  | m, [] => m
  | m, n :: ns => minInts (if n < m then n else m) ns
theorem maxInts_spec : ∀ (ns : List Int) (m : Int), maxInts m ns ∈ m :: ns ∧ ∀ y ∈ m :: ns, y ≤ maxInts m ns
  | [], m => ⟨by simp [maxInts], by simp [maxInts]⟩
  | n :: ns, m => by
    rw [maxInts]
    by_cases hc : n > m
    · rw [if_pos hc]
      obtain ⟨h1, h2⟩ := maxInts_spec ns n
      have h3 := h2 n List.mem_cons_self
      refine ⟨List.mem_cons_of_mem _ h1, fun y hy => ?_⟩
      rcases List.mem_cons.mp hy with z | z
      · subst z; omega
      · exact h2 y z
    · rw [if_neg hc]
      obtain ⟨h1, h2⟩ := maxInts_spec ns m
      have h3 := h2 m List.mem_cons_self
      refine ⟨?_, fun y hy => ?_⟩
      · rcases List.mem_cons.mp h1 with z | z
        · rw [z]; exact List.mem_cons_self
        · exact List.mem_cons_of_mem _ (List.mem_cons_of_mem _ z)
      · rcases List.mem_cons.mp hy with z | z
        · subst z; exact h3
        · rcases List.mem_cons.mp z with z | z
          · subst z; omega
          · exact h2 y (List.mem_cons_of_mem _ z)
theorem minInts_spec : ∀ (ns : List Int) (m : Int), minInts m ns ∈ m :: ns ∧ ∀ y ∈ m :: ns,  minInts m ns ≤ y
  | [], m => ⟨by simp [minInts], by simp [minInts]⟩
  | n :: ns, m => by
    rw [minInts]
    by_cases hc : n < m
    · rw [if_pos hc]
      obtain ⟨h1, h2⟩ := minInts_spec ns n
      have h3 := h2 n List.mem_cons_self
      refine ⟨List.mem_cons_of_mem _ h1, fun y hy => ?_⟩
      rcases List.mem_cons.mp hy with z | z
      · subst z; omega
      · exact h2 y z
    · rw [if_neg hc]
      obtain ⟨h1, h2⟩ := minInts_spec ns m
      have h3 := h2 m List.mem_cons_self
      refine ⟨?_, fun y hy => ?_⟩
      · rcases List.mem_cons.mp h1 with z | z
        · rw [z]; exact List.mem_cons_self
        · exact List.mem_cons_of_mem _ (List.mem_cons_of_mem _ z)
      · rcases List.mem_cons.mp hy with z | z
        · subst z; exact h3
        · rcases List.mem_cons.mp z with z | z
          · subst z; omega
          · exact h2 y (List.mem_cons_of_mem _ z)
def bestList (pick : Int → List Int → Int) (o : OV) : Res OV := match listOf o with
  | some ds => match intsOf ds with
    | some (n :: ns) => .ok (.fz (.int (pick n ns)))
    | _ => .bad
  | none => .bad
def maxS : List OV → Res OV
  | [.fz (.int i), .fz (.int j)] => .ok (.fz (.int (if j > i then j else i)))
  | [o] => bestList maxInts o
  | _ => .bad
def minS : List OV → Res OV
  | [.fz (.int i), .fz (.int j)] => .ok (.fz (.int (if j < i then j else i)))
  | [.fz (.int a), .fz (.int b), .fz (.int c)] => .ok (.fz (.int (if b < a then (if c < b then c else b) else (if c < a then c else a))))
  | [o] => bestList minInts o
  | _ => .bad
theorem best_open {pick : Int → List Int → Int} {F H : Hp} {o r : OV} {v : V} {K : PySem.W.Frag} (sm : Same F H) (w : View K F H o v) (e : bestList pick o = .ok r) : ∃ a n ns, v = .ref a ∧ SqL K H a ((n :: ns).map V.int) ∧ r = .fz (.int (pick n ns)) := by
  unfold bestList at e
  cases hl : listOf o with
  | none => rw [hl] at e; cases e
  | some ds =>
    rw [hl] at e
    dsimp only at e
    split at e
    · rename_i n ns hi
      cases e
      obtain ⟨a, vs, rfl, l, rr⟩ := w.list sm hl
      rw [intsOf_eq hi] at rr
      rw [rr.ints] at l
      exact ⟨a, n, ns, rfl, l.sql, rfl⟩
    · cases e
theorem cs_max (hc : X.calm = true) : CallS X (.builtin "max") maxS := by
  intro pins s σ F H vs us os r Q I sm rv wv e q
  unfold maxS at e
  split at e
  · obtain ⟨v, u, rfl, w1, w2⟩ := wv.two
    cases e
    exact call_max2 hc pins s σ H _ us Q I rv ⟨_, _, by rw [w1.int, w2.int], q _ _ _ (grow_int sm _)⟩
  · obtain ⟨v, rfl, w⟩ := wv.one
    obtain ⟨a, n, ns, rfl, l, rfl⟩ := best_open sm w e
    refine cr_max hc pins s σ H _ us Q I rv ⟨a, n :: ns, rfl, l, by simp, fun m h1 h2 => ?_⟩
    obtain ⟨g1, g2⟩ := maxInts_spec ns n
    have : m = maxInts n ns := Int.le_antisymm (g2 m h1) (h2 _ g1)
    rw [this]
    exact q _ _ _ (grow_int sm _)
  · cases e
theorem cs_min (hc : X.calm = true) : CallS X (.builtin "min") minS := by
  intro pins s σ F H vs us os r Q I sm rv wv e q
  unfold minS at e
  split at e
  · obtain ⟨v, u, rfl, w1, w2⟩ := wv.two
    cases e
    exact call_min2 hc pins s σ H _ us Q I rv ⟨_, _, by rw [w1.int, w2.int], q _ _ _ (grow_int sm _)⟩
  · obtain ⟨v, u, t, rfl, w1, w2, w3⟩ := wv.three
    cases e
    have e1 := w1.int
    have e2 := w2.int
    have e3 := w3.int
    subst e1 e2 e3
    cases rv with
    | cons r1 rv =>
      cases rv with
      | cons r2 rv =>
        cases rv with
        | cons r3 rv =>
          cases rv
          obtain ⟨t1, rfl⟩ := r1
          obtain ⟨t2, rfl⟩ := r2
          obtain ⟨t3, rfl⟩ := r3
          refine min_three_ints (I.ok.hd hc) fun h' tk k => ⟨_, H, I.kept k, ?_, q _ _ _ (grow_int sm _)⟩
          split <;> split <;> exact ⟨_, rfl⟩
  · obtain ⟨v, rfl, w⟩ := wv.one
    obtain ⟨a, n, ns, rfl, l, rfl⟩ := best_open sm w e
    refine cr_min hc pins s σ H _ us Q I rv ⟨a, n :: ns, rfl, l, by simp, fun m h1 h2 => ?_⟩
    obtain ⟨g1, g2⟩ := minInts_spec ns n
    have : m = minInts n ns := Int.le_antisymm (h2 _ g1) (g2 m h1)
    rw [this]
    exact q _ _ _ (grow_int sm _)
  · cases e
def sumS : List OV → Res OV
  | [o] => match listOf o with
    | some ds => match intsOf ds with
      | some ns => .ok (.fz (.int ns.sum))
      | none => .bad
    | none => .bad
  | _ => .bad
theorem cs_sum (hc : X.calm = true) : CallS X (.builtin "sum") sumS := by
  intro pins s σ F H vs us os r Q I sm rv wv e q
  unfold sumS at e
  split at e
  · rename_i o
    obtain ⟨v, rfl, w⟩ := wv.one
    cases hl : listOf o with
    | none => rw [hl] at e; cases e
    | some ds =>
      rw [hl] at e
      dsimp only at e
      cases hi : intsOf ds with
      | none => rw [hi] at e; cases e
      | some ns =>
        rw [hi] at e
        cases e
        obtain ⟨a, vs, rfl, l, rr⟩ := w.list sm hl
        rw [intsOf_eq hi] at rr
        rw [rr.ints] at l
        exact cr_sum hc pins s σ H _ us Q I rv ⟨a, ns, rfl, l.sql, q _ _ _ (grow_int sm _)⟩
  · cases e
def allS (isAll : Bool) : List OV → Res OV
  | [o] => match listOf o with
    | some ds => match blsOf ds with
      | some ns => .ok (.fz (.bl (if isAll then ns.all id else ns.any id)))
      | none => .bad
    | none => .bad
  | _ => .bad
theorem cs_all (hc : X.calm = true) (isAll : Bool) : CallS X (.builtin (if isAll then "all" else "any")) (allS isAll) := by
  intro pins s σ F H vs us os r Q I sm rv wv e q
  unfold allS at e
  split at e
  · rename_i o
    obtain ⟨v, rfl, w⟩ := wv.one
    cases hl : listOf o with
    | none => rw [hl] at e; cases e
    | some ds =>
      rw [hl] at e
      dsimp only at e
      cases hi : blsOf ds with
      | none => rw [hi] at e; cases e
      | some ns =>
        rw [hi] at e
        cases e
        obtain ⟨a, vs, rfl, l, rr⟩ := w.list sm hl
        rw [blsOf_eq hi] at rr
        rw [rr.bls] at l
        cases isAll with
        | true => exact cr_all hc pins s σ H _ us Q I rv ⟨a, ns, rfl, l.sql, q _ _ _ (grow_bl sm _)⟩
        | false => exact cr_any hc pins s σ H _ us Q I rv ⟨a, ns, rfl, l.sql, q _ _ _ (grow_bl sm _)⟩
  · cases e
def tupS : List OV → Res OV
  | [o] => match seqOf o with
    | some ds => .ok (.fz (.tup ds))
    | none => .bad
  | _ => .bad
theorem seqOf_list {o : OV} {ds : List D} (h : seqOf o = some ds) : o = .fz (.tup ds) ∨ listOf o = some ds := by
  unfold seqOf at h
  split at h
  · cases h; exact .inl rfl
  · exact .inr h
theorem cs_tuple : CallS X (.type "tuple") tupS := by
  intro pins s σ F H vs us os r Q I sm rv wv e q
  unfold tupS at e
  split at e
  · rename_i o
    obtain ⟨v, rfl, w⟩ := wv.one
    cases hl : seqOf o with
    | none => rw [hl] at e; cases e
    | some ds =>
      rw [hl] at e
      cases e
      rcases seqOf_list hl with h | h
      · subst h
        obtain ⟨a, vs, rfl, l, rr⟩ := w.tup sm
        exact call_tuple_of pins s σ H _ us Q I rv ⟨a, vs, rfl, .inr ⟨l, q _ _ _ (Grow.same sm w.fz)⟩⟩
      · obtain ⟨a, vs, rfl, l, rr⟩ := w.list sm h
        exact call_tuple_of pins s σ H _ us Q I rv ⟨a, vs, rfl, .inl ⟨l.sql, fun p np => q _ _ _ (Grow.tup sm np rr)⟩⟩
  · cases e
def lstS : List OV → Res OV
  | [o] => match seqOf o with
    | some ds => .ok (.ls (ds.map OV.fz))
    | none => .bad
  | _ => .bad
theorem cs_list : CallS X (.type "list") lstS := by
  intro pins s σ F H vs us os r Q I sm rv wv e q
  unfold lstS at e
  split at e
  · rename_i o
    obtain ⟨v, rfl, w⟩ := wv.one
    cases hl : seqOf o with
    | none => rw [hl] at e; cases e
    | some ds =>
      rw [hl] at e
      cases e
      obtain ⟨a, vs, rfl, l, rr⟩ := w.seq sm hl
      exact call_list_of pins s σ H _ us Q I rv ⟨a, vs, rfl, l, fun p np => q _ _ _ (Grow.lst sm np rr)⟩
  · cases e
def reprS : List OV → Res OV
  | [o] => gd (o.er.py.showable && decide (o.er.py.shown.length ≤ sizeLine) && decide (o.er.dep ≤ 60)) (.fz (.str o.er.py.shown))
  | _ => .bad
mutual
theorem D.noDict : ∀ d : D, d.py.hasDict = false
  | .non => by simp only [D.py, PyData.hasDict]
  | .bl b => by simp only [D.py, PyData.hasDict]
  | .int i => by simp only [D.py, PyData.hasDict]
  | .str x => by simp only [D.py, PyData.hasDict]
  | .tup xs => by simp only [D.py, PyData.hasDict]; exact D.noDicts xs
  | .lst xs => by simp only [D.py, PyData.hasDict]; exact D.noDicts xs
theorem D.noDicts : ∀ ds : List D, PyData.hasDictAll (D.pys ds) = false
  | [] => by simp only [D.pys, PyData.hasDictAll]
  | x :: xs => by simp only [D.pys, PyData.hasDictAll, D.noDict x, D.noDicts xs, Bool.or_self]
end
theorem cs_repr (hu : X.A.units + 65 < cLine) (hg : X.A.guards = some []) : CallS X (.builtin "repr") reprS := by
  intro pins s σ F H vs us os r Q I sm rv wv e q
  unfold reprS at e
  split at e
  · rename_i o
    obtain ⟨v, rfl, w⟩ := wv.one
    obtain ⟨hz, rfl⟩ := gd_ok e
    rw [Bool.and_eq_true, Bool.and_eq_true] at hz
    obtain ⟨⟨h1, h2⟩, h3⟩ := hz
    have h2 := of_decide_eq_true h2
    have h3 : o.er.py.depth ≤ 60 := of_decide_eq_true h3
    cases rv with
    | cons r1 rv =>
      cases rv
      rename_i u
      obtain ⟨as, rd⟩ := w.reads (K := X.K) I sm r1
      have fin : ∀ h' tk t, (∀ b o, s.heap.get? b = some o → h'.get? b = some o) → EP X pins σ Q (.str o.er.py.shown t) { s with heap := h', toks := tk } := fun h' tk t k => ⟨.str _, H, I.kept k, ⟨t, rfl⟩, q _ _ _ (grow_str sm _)⟩
      have fin0 : ∀ tk t, EP X pins σ Q (.str o.er.py.shown t) { s with toks := tk } := fun tk t => fin s.heap tk t fun _ _ z => z
      have hd := D.noDict o.er
      generalize o.er.py = d at *
      cases rd with
      | none => exact PySem.P.repr_of_none (by simpa [PyData.shown] using fin0 (s.toks + 1) s.toks)
      | bool b => exact PySem.P.repr_of_bool (by simpa [PyData.shown] using fin0 (s.toks + 1) s.toks)
      | int i t => exact PySem.P.repr_of_int (by simpa [PyData.showable] using h1) (by simpa [PyData.shown] using fin0 (s.toks + 1) s.toks)
      | str x t => exact PySem.P.repr_of_str (by simpa [PyData.shown] using fin0 (s.toks + 1) s.toks) (by simpa [PyData.shown] using h2)
      | list a1 a2 a3 a4 => exact repr_of_reads' (.list a1 a2 a3 a4) h1 (fun z => by rw [hd] at z; cases z) hg (by omega) (fun _ _ z => z) (fun h' u tk k => fin h' tk u k) h2
      | tuple a1 a2 a3 a4 => exact repr_of_reads' (.tuple a1 a2 a3 a4) h1 (fun z => by rw [hd] at z; cases z) hg (by omega) (fun _ _ z => z) (fun h' u tk k => fin h' tk u k) h2
      | dict a1 a2 a3 a4 a5 => exact repr_of_reads' (.dict a1 a2 a3 a4 a5) h1 (fun z => by rw [hd] at z; cases z) hg (by omega) (fun _ _ z => z) (fun h' u tk k => fin h' tk u k) h2
  · cases e
end
end Pf

/-! Pf5: slots stored, lists changed where they stand; statements. -/
namespace Pf
open PySem PySem.Spec PyProof.Rows L2

section
variable {K : PySem.W.Frag} {C : Fx} {F : Hp} {fp : Nat → List Addr} {τ : T} {σ : L2.St} {H : Hp}
theorem Rep.tmp {d : D} {v : V} (r : Rep K F d v) : Tmp K C F fp H (.fz d) v [] := ⟨Own.of_rep r, fun _ z => (nomatch z), fun _ z => (nomatch z), fun _ z => (nomatch z)⟩
theorem get_set {i j : Nat} {v w : V} {σ : L2.St} (h : j ≠ i) : (σ.set i (some v))[j]? = σ[j]? := List.getElem?_set_ne (Ne.symm h)
/-- a name is bound to a new value -/
theorem Rel.setSlot {i : Nat} {r : OV} {v : V} {as : List Addr} (R : Rel K C F fp τ σ H) (t : Tmp K C F fp H r v as) (hi : i < τ.length) (hn : i ∉ C.ios.map (·.1)) : Rel K C F (fpSet fp i as) (τ.set i (some r)) (σ.set i (some v)) H := by
  have hiσ : i < σ.length := by rw [← R.len]; exact hi
  have cs : ∀ {j : Nat} {a : Addr}, a ∈ fpSet fp i as j → (j = i ∧ a ∈ as) ∨ (j ≠ i ∧ a ∈ fp j) := fun {j a} h => by
    by_cases hj : j = i
    · subst hj; rw [fpSet_same] at h; exact .inl ⟨rfl, h⟩
    · rw [fpSet_ne hj] at h; exact .inr ⟨hj, h⟩
  refine ⟨R.sub, R.old, R.frame, R.new, by rw [List.length_set, List.length_set]; exact R.len, fun j o e => ?_, fun j k a h1 h2 => ?_, fun j a h => ?_, fun j a h => ?_, R.stay, fun p hp => ?_, R.ioc, fun p hp => ?_⟩
  · by_cases hj : j = i
    · subst hj
      rw [slotAt_set_same hi] at e
      cases e
      exact ⟨v, List.getElem?_set_self hiσ, by rw [fpSet_same]; exact t.own⟩
    · rw [slotAt_set_ne (Ne.symm hj)] at e
      obtain ⟨w, e1, q⟩ := R.slot j o e
      exact ⟨w, by rw [List.getElem?_set_ne (Ne.symm hj)]; exact e1, by rw [fpSet_ne hj]; exact q⟩
  · rcases cs h1 with ⟨e1, g1⟩ | ⟨e1, g1⟩
    · rcases cs h2 with ⟨e2, g2⟩ | ⟨e2, g2⟩
      · rw [e1, e2]
      · exact absurd g2 (t.apart a g1 k)
    · rcases cs h2 with ⟨e2, g2⟩ | ⟨e2, g2⟩
      · exact absurd g1 (t.apart a g2 j)
      · exact R.apart j k a g1 g2
  · rcases cs h with ⟨e1, g1⟩ | ⟨e1, g1⟩
    · exact ⟨(t.new a g1).1, .inl (t.new a g1).2⟩
    · exact R.own j a g1
  · rcases cs h with ⟨e1, g1⟩ | ⟨e1, g1⟩
    · obtain ⟨vs, e⟩ := t.own.there a g1
      rw [e]; simp
    · exact R.lay j a g1
  · have hpi : p.1 ≠ i := fun z => hn (by rw [← z]; exact List.mem_map_of_mem hp)
    rw [List.getElem?_set_ne (Ne.symm hpi)]
    exact R.lent p hp
  · obtain ⟨w, q⟩ := R.pend p hp
    refine ⟨w, fun a ha => ⟨(q a ha).1, (q a ha).2.1, fun j z => ?_⟩⟩
    rcases cs z with ⟨e1, g1⟩ | ⟨e1, g1⟩
    · exact t.free a g1 p hp ha
    · exact (q a ha).2.2 j g1
/-- a slot's own list is handed on; the slot is empty -/
theorem Rel.move {i : Nat} {o : OV} (R : Rel K C F fp τ σ H) (e : slotAt τ i = some o) (hn : i ∉ C.ios.map (·.1)) : ∃ v, σ[i]? = some (some v) ∧ Rel K C F (fpSet fp i []) (τ.set i none) σ H ∧ Tmp K C F (fpSet fp i []) H o v (fp i) := by
  obtain ⟨v, ev, w⟩ := R.slot i o e
  have il := slotAt_lt e
  have out : ∀ {j : Nat} {a : Addr}, a ∈ fpSet fp i [] j → j ≠ i ∧ a ∈ fp j := fun {j a} h => by
    by_cases hj : j = i
    · subst hj; rw [fpSet_same] at h; exact absurd h (by simp)
    · rw [fpSet_ne hj] at h; exact ⟨hj, h⟩
  refine ⟨v, ev, ⟨R.sub, R.old, R.frame, R.new, by rw [List.length_set]; exact R.len, fun j o' e' => ?_, fun j k a h1 h2 => R.apart j k a (out h1).2 (out h2).2, fun j a h => R.own j a (out h).2, fun j a h => R.lay j a (out h).2, R.stay, R.lent, R.ioc, fun p hp => ?_⟩,
    w, fun a ha j z => (out z).1 (R.apart j i a (out z).2 ha), fun a ha => ⟨(R.own i a ha).1, ?_⟩, fun a ha p hp z => ((R.pend p hp).2 a z).2.2 i ha⟩
  · by_cases hj : j = i
    · subst hj
      rw [slotAt_set_same il] at e'
      cases e'
    · rw [slotAt_set_ne (Ne.symm hj)] at e'
      rw [fpSet_ne hj]
      exact R.slot j o' e'
  · obtain ⟨w, q⟩ := R.pend p hp
    exact ⟨w, fun a ha => ⟨(q a ha).1, (q a ha).2.1, fun j z => (q a ha).2.2 j (out z).2⟩⟩
  · rcases (R.own i a ha).2 with z | z
    · exact z
    · exact absurd (R.ioc a i z) hn
theorem Owns.append_reps {ds : List D} {ws : List V} (r : Reps K F ds ws) : ∀ {os : List OV} {vs : List V} {as : List Addr}, Owns K F H os vs as → Owns K F H (os ++ ds.map OV.fz) (vs ++ ws) as
  | [], vs, as, h => by
    rw [Owns] at h
    obtain ⟨rfl, rfl⟩ := h
    exact Owns.of_reps r
  | x :: xs, vs, as, h => by
    rw [Owns] at h
    obtain ⟨v, us, bs, cs, rfl, rfl, q, qs, n⟩ := h
    rw [List.cons_append, List.cons_append, Owns]
    exact ⟨v, us ++ ws, bs, cs, rfl, rfl, q, Owns.append_reps r qs, n⟩
/-- a slot's own list is changed where it stands -/
theorem Rel.write {i : Nat} {xs ys : List OV} {a : Addr} {bs : List Addr} {vs : List V} (R : Rel K C F fp τ σ H) (e : slotAt τ i = some (.ls xs)) (ha : fp i = a :: bs)
    (w : Owns K F H ys vs bs) (n : a ∉ bs) (hv : σ[i]? = some (some (.ref a))) : Rel K C F fp (τ.set i (some (.ls ys))) σ (upd H a (.lst vs)) := by
  have il := slotAt_lt e
  have ai : a ∈ fp i := by rw [ha]; exact List.mem_cons_self
  have oth : ∀ j, j ≠ i → ∀ b ∈ fp j, b ≠ a := fun j hj b hb z => hj (R.apart j i a (by rw [← z]; exact hb) ai)
  have kp : ∀ b u, b ≠ a → H b = some u → upd H a (.lst vs) b = some u := fun b u hb h => by rw [upd_ne hb]; exact h
  refine ⟨same_updF R.sub (R.own i a ai).1, R.old, fun b o h1 h2 => ?_, R.new, by rw [List.length_set]; exact R.len, fun j o e' => ?_, R.apart, R.own, fun j b hb => ?_, fun b hb => ?_, R.lent, R.ioc, fun p hp => ?_⟩
  · refine kp b o (fun z => ?_) (R.frame b o h1 h2)
    subst z
    rcases (R.own i b ai).2 with z | z
    · rw [z] at h1; cases h1
    · rw [z] at h2; cases h2
  · by_cases hj : j = i
    · subst hj
      rw [slotAt_set_same il] at e'
      cases e'
      refine ⟨.ref a, hv, ?_⟩
      rw [Own, ha]
      exact ⟨a, vs, bs, rfl, rfl, upd_same, n, w.keep (Same.refl _) fun b hb u hu => kp b u (fun z => n (by rw [← z]; exact hb)) hu⟩
    · rw [slotAt_set_ne (Ne.symm hj)] at e'
      obtain ⟨u, e1, q⟩ := R.slot j o e'
      exact ⟨u, e1, q.keep (Same.refl _) fun b hb x hx => kp b x (oth j hj b hb) hx⟩
  · by_cases hb' : b = a
    · rw [hb', upd_same]; simp
    · rw [upd_ne hb']; exact R.lay j b hb
  · by_cases hb' : b = a
    · subst hb'; rw [upd_same] at hb; cases hb
    · rw [upd_ne hb'] at hb; exact R.stay b hb
  · obtain ⟨q, g⟩ := R.pend p hp
    have hpa : ∀ b ∈ p.2.2, b ≠ a := fun b hb z => (g b hb).2.2 i (by rw [z]; exact ai)
    refine ⟨q.keep (Same.refl _) fun b hb u hu => kp b u (hpa b hb) hu, fun b hb => ⟨(g b hb).1, ?_, (g b hb).2.2⟩⟩
    rw [upd_ne (hpa b hb)]
    exact (g b hb).2.1
theorem Rel.listSlot {i : Nat} {xs : List OV} (R : Rel K C F fp τ σ H) (e : slotAt τ i = some (.ls xs)) : ∃ a vs bs, σ[i]? = some (some (.ref a)) ∧ fp i = a :: bs ∧ H a = some (.lst vs) ∧ a ∉ bs ∧ Owns K F H xs vs bs := by
  obtain ⟨v, ev, w⟩ := R.slot i _ e
  rw [Own] at w
  obtain ⟨a, vs, bs, rfl, e2, q, n, r⟩ := w
  exact ⟨a, vs, bs, ev, e2, q, n, r⟩
end

/-! ### statements -/
inductive Fl where
  | nx
  | rt (r : OV)
  | bk
  | ct
abbrev FS := T → Res (Fl × T)
def endS (K : PySem.W.Frag) (C : Fx) (D : Ends) (F : Hp) (fp : Nat → List Addr) (σ : L2.St) (H : Hp) : Fl → Prop
  | .nx => D.nx σ H
  | .bk => D.bk σ H
  | .ct => D.ct σ H
  | .rt r => ∀ v as, Tmp K C F fp H r v as → D.rt v H
def rdS (K : PySem.W.Frag) (io : List Nat) (g : FS) : TS := fun D σ H => ∃ C F fp τ fl τ', C.ios.map (·.1) = io ∧ Rel K C F fp τ σ H ∧ g τ = .ok (fl, τ') ∧
  ∀ F' fp' σ' H', Rel K C F' fp' τ' σ' H' → Same F F' → endS K C D F' fp' σ' H' fl
def XS (X : Cx) (io : List Nat) (s : Stmt) (g : FS) : Prop := PS X s (rdS X.K io g)
def XB (X : Cx) (io : List Nat) (ss : List Stmt) (g : FS) : Prop := PSs X ss (rdS X.K io g)
theorem ps_weak {X : Cx} {s : Stmt} {t t' : TS} (h : PS X s t) (w : ∀ D σ H, t' D σ H → t D σ H) : PS X s t' := ⟨fun pins s σ H D I q => h.run pins s σ H D I (w D σ H q)⟩
theorem pss_weak {X : Cx} {s : List Stmt} {t t' : TS} (h : PSs X s t) (w : ∀ D σ H, t' D σ H → t D σ H) : PSs X s t' := ⟨fun pins s σ H D I q => h.run pins s σ H D I (w D σ H q)⟩
def nxS : FS := fun τ => .ok (.nx, τ)
def bkS : FS := fun τ => .ok (.bk, τ)
def ctS : FS := fun τ => .ok (.ct, τ)
def seqS (g h : FS) : FS := fun τ => (g τ).bind fun (fl, τ1) => match fl with
  | .nx => h τ1
  | fl => .ok (fl, τ1)
section
variable {X : Cx} {io : List Nat} {pos : Pos} {s : Stmt} {ss : List Stmt} {f c : FP} {g h : FS} {e : Expr}
theorem xb_nil : XB X io [] nxS := pss_weak pss_nil fun D σ H ⟨C, F, fp, τ, fl, τ', hio, R, e, q⟩ => by
  cases e
  exact q F fp σ H R (Same.refl _)
theorem xb_cons (h1 : XS X io s g) (h2 : XB X io ss h) : XB X io (s :: ss) (seqS g h) := by
  refine pss_weak (pss_cons h1 h2) fun D σ H ⟨C, F, fp, τ, fl, τ', hio, R, e, q⟩ => ?_
  obtain ⟨⟨fl1, τ1⟩, e1, e⟩ := Res.bind_ok e
  refine ⟨C, F, fp, τ, fl1, τ1, hio, R, e1, fun F1 fp1 σ1 H1 R1 s1 => ?_⟩
  cases fl1 with
  | nx => exact ⟨C, F1, fp1, τ1, fl, τ', hio, R1, e, fun F2 fp2 σ2 H2 R2 s2 => q F2 fp2 σ2 H2 R2 (s1.trans s2)⟩
  | rt r => cases e; exact q F1 fp1 σ1 H1 R1 s1
  | bk => cases e; exact q F1 fp1 σ1 H1 R1 s1
  | ct => cases e; exact q F1 fp1 σ1 H1 R1 s1
theorem xs_pass : XS X io (.Pass pos) nxS := ps_weak ps_pass fun D σ H ⟨C, F, fp, τ, fl, τ', hio, R, e, q⟩ => by
  cases e
  exact q F fp σ H R (Same.refl _)
theorem xs_break : XS X io (.Break pos) bkS := ps_weak ps_break fun D σ H ⟨C, F, fp, τ, fl, τ', hio, R, e, q⟩ => by
  cases e
  exact q F fp σ H R (Same.refl _)
theorem xs_continue : XS X io (.Continue pos) ctS := ps_weak ps_continue fun D σ H ⟨C, F, fp, τ, fl, τ', hio, R, e, q⟩ => by
  cases e
  exact q F fp σ H R (Same.refl _)
def ifS (c : FP) (g h : FS) : FS := fun τ => (tru c τ).bind fun (k, τ1) => if k = true then g τ1 else h τ1
theorem xs_if {a b : List Stmt} (hc : XT X io e (tru c)) (ha : XB X io a g) (hb : XB X io b h) : XS X io (.If e a b pos) (ifS c g h) := by
  refine ps_weak (ps_if hc ha hb) fun D σ H ⟨C, F, fp, τ, fl, τ', hio, R, e, q⟩ => ?_
  obtain ⟨⟨k, τ1⟩, e1, e⟩ := Res.bind_ok e
  refine ⟨C, F, fp, τ, k, τ1, hio, R, e1, fun F1 fp1 H1 R1 s1 => ?_⟩
  cases k with
  | true => exact ⟨C, F1, fp1, τ1, fl, τ', hio, R1, e, fun F2 fp2 σ2 H2 R2 s2 => q F2 fp2 σ2 H2 R2 (s1.trans s2)⟩
  | false => exact ⟨C, F1, fp1, τ1, fl, τ', hio, R1, e, fun F2 fp2 σ2 H2 R2 s2 => q F2 fp2 σ2 H2 R2 (s1.trans s2)⟩
def isComp : Expr → Bool
  | .ListComp _ _ _ _ => true
  | .SetComp _ _ _ _ => true
  | .DictComp _ _ _ _ _ => true
  | _ => false
theorem swaps_no {e : Expr} {t : Option Expr} {l : Nat} {env : Env} (h : isComp e = false) : swapsWith e t l env = pure false := by
  cases e <;> first | rfl | (exact absurd h (by simp [isComp]))
def exS (f : FP) : FS := fun τ => (f τ).bind fun (p, τ1) => .ok (.nx, τ1)
theorem xs_expr (hc : isComp e = false) (ha : XP X io e f) : XS X io (.Expr e pos) (exS f) := by
  refine ps_weak (ps_expr ha (swaps_no hc)) fun D σ H ⟨C, F, fp, τ, fl, τ', hio, R, e, q⟩ => ?_
  obtain ⟨⟨p, τ1⟩, e1, e⟩ := Res.bind_ok e
  cases e
  exact ⟨C, F, fp, τ, p, _, hio, R, e1, fun F1 fp1 H1 v R1 s1 w1 => q F1 fp1 σ H1 R1 s1⟩
theorem xs_doc {x : Str} {j : Nat} {p' : Pos} : XS X io (.Expr (.Constant (.str x) j p') pos) nxS := ps_weak ps_doc fun D σ H ⟨C, F, fp, τ, fl, τ', hio, R, e, q⟩ => by
  cases e
  exact q F fp σ H R (Same.refl _)
/-- a slot's own list is handed on when the def ends -/
def giveSlot (io : List Nat) (i : Nat) (τ : T) : Option OV → Res (OV × T)
  | some (.fz d) => .ok (.fz d, τ)
  | some (.ls xs) => if i ∈ io then .bad else .ok (.ls xs, τ.set i none)
  | none => .bad
def give (io : List Nat) (p : Pre) (τ : T) : Res (OV × T) := match p with
  | .val r => .ok (r, τ)
  | .sl i => giveSlot io i τ (slotAt τ i)
theorem Rel.give {K : PySem.W.Frag} {C : Fx} {F : Hp} {fp : Nat → List Addr} {τ τ' : T} {σ : L2.St} {H : Hp} {p : Pre} {v : V} {r : OV} (hio : C.ios.map (·.1) = io) (R : Rel K C F fp τ σ H) (h : PreR K C F fp σ H p v) (e : Pf.give io p τ = .ok (r, τ')) :
    ∃ fp' as, Rel K C F fp' τ' σ H ∧ Tmp K C F fp' H r v as := by
  cases p with
  | val r' =>
    obtain ⟨as, t⟩ := h
    cases e
    exact ⟨fp, as, R, t⟩
  | sl i =>
    have e : giveSlot io i τ (slotAt τ i) = .ok (r, τ') := e
    cases hs : slotAt τ i with
    | none => rw [hs] at e; cases e
    | some o =>
      rw [hs] at e
      cases o with
      | fz d =>
        cases e
        obtain ⟨w, e1, q⟩ := R.slot i _ hs
        have e2 : some (some w) = some (some v) := e1.symm.trans h
        cases e2
        rw [Own.fz_iff] at q
        exact ⟨fp, [], R, q.2.tmp⟩
      | ls xs =>
        have e : (if i ∈ io then Res.bad else Res.ok (OV.ls xs, τ.set i none)) = Res.ok (r, τ') := e
        by_cases hi : i ∈ io
        · rw [if_pos hi] at e; cases e
        · rw [if_neg hi] at e
          cases e
          obtain ⟨w, e1, R', t⟩ := R.move hs (by rw [hio]; exact hi)
          have e2 : some (some w) = some (some v) := e1.symm.trans h
          cases e2
          exact ⟨_, _, R', t⟩
def retS (io : List Nat) (f : FP) : FS := fun τ => (f τ).bind fun (p, τ1) => (give io p τ1).bind fun (r, τ2) => .ok (.rt r, τ2)
theorem xs_ret (ha : XP X io e f) : XS X io (.Return (some e) pos) (retS io f) := by
  refine ps_weak (ps_ret ha) fun D σ H ⟨C, F, fp, τ, fl, τ', hio, R, e, q⟩ => ?_
  obtain ⟨⟨p, τ1⟩, e1, e⟩ := Res.bind_ok e
  obtain ⟨⟨r, τ2⟩, e2, e⟩ := Res.bind_ok e
  cases e
  refine ⟨C, F, fp, τ, p, τ1, hio, R, e1, fun F1 fp1 H1 v R1 s1 w1 => ?_⟩
  obtain ⟨fp2, as, R2, t⟩ := R1.give hio w1 e2
  exact q F1 fp2 σ H1 R2 s1 v as t
def retN : FS := fun τ => .ok (.rt (.fz .non), τ)
theorem xs_retN : XS X io (.Return none pos) retN := ps_weak ps_retN fun D σ H ⟨C, F, fp, τ, fl, τ', hio, R, e, q⟩ => by
  cases e
  obtain ⟨as, t⟩ := ((grow_non R.sub).rel R).2
  exact q F fp σ H R (Same.refl _) _ as t

/-! ### stores -/
/-- what is stored: as a new own value, or as data -/
def take (io : List Nat) (own : Bool) (p : Pre) (τ : T) : Res (OV × T) := match own, p with
  | true, .val r => .ok (r, τ)
  | _, p => (settle io p τ).bind fun (d, τ') => .ok (.fz d, τ')
theorem Rel.take {K : PySem.W.Frag} {C : Fx} {F : Hp} {fp : Nat → List Addr} {τ τ' : T} {σ : L2.St} {H : Hp} {p : Pre} {v : V} {r : OV} {own : Bool} (hio : C.ios.map (·.1) = io) (R : Rel K C F fp τ σ H) (h : PreR K C F fp σ H p v) (e : Pf.take io own p τ = .ok (r, τ')) :
    ∃ F' fp' as, Rel K C F' fp' τ' σ H ∧ Same F F' ∧ Tmp K C F' fp' H r v as := by
  have data : ((Pf.settle io p τ).bind fun (d, τ') => Res.ok (OV.fz d, τ')) = .ok (r, τ') → ∃ F' fp' as, Rel K C F' fp' τ' σ H ∧ Same F F' ∧ Tmp K C F' fp' H r v as := fun e => by
    obtain ⟨⟨d, τ1⟩, e1, e⟩ := Res.bind_ok e
    cases e
    obtain ⟨F', fp', R', s, w⟩ := R.settle hio h e1
    exact ⟨F', fp', [], R', s, w.tmp⟩
  cases own with
  | false => exact data e
  | true =>
    cases p with
    | val r' =>
      obtain ⟨as, t⟩ := h
      cases e
      exact ⟨F, fp, as, R, Same.refl _, t⟩
    | sl i => exact data e
def putS (io : List Nat) (i : Nat) (r : OV) (τ : T) : Res T := gd (decide (i ∉ io) && decide (i < τ.length)) (τ.set i (some r))
theorem Rel.put {K : PySem.W.Frag} {C : Fx} {F : Hp} {fp : Nat → List Addr} {τ τ' : T} {σ : L2.St} {H : Hp} {i : Nat} {v : V} {r : OV} {as : List Addr} (hio : C.ios.map (·.1) = io) (R : Rel K C F fp τ σ H) (t : Tmp K C F fp H r v as) (e : putS io i r τ = .ok τ') :
    Rel K C F (fpSet fp i as) τ' (σ.set i (some v)) H := by
  obtain ⟨hz, rfl⟩ := gd_ok e
  rw [Bool.and_eq_true] at hz
  exact R.setSlot t (of_decide_eq_true hz.2) (by rw [hio]; exact of_decide_eq_true hz.1)
def setS (io : List Nat) (i : Nat) (own : Bool) (f : FP) : FS := fun τ => (f τ).bind fun (p, τ1) => (take io own p τ1).bind fun (r, τ2) => (putS io i r τ2).bind fun τ3 => .ok (.nx, τ3)
theorem set_open {i : Nat} {own : Bool} {D : Ends} {σ : L2.St} {H : Hp} (h : rdS X.K io (setS io i own f) D σ H) : tAsg (rdP X.K io f) (gName i) D σ H := by
  obtain ⟨C, F, fp, τ, fl, τ', hio, R, e, q⟩ := h
  obtain ⟨⟨p, τ1⟩, e1, e⟩ := Res.bind_ok e
  obtain ⟨⟨r, τ2⟩, e2, e⟩ := Res.bind_ok e
  obtain ⟨τ3, e3, e⟩ := Res.bind_ok e
  cases e
  refine ⟨C, F, fp, τ, p, τ1, hio, R, e1, fun F1 fp1 H1 v R1 s1 w1 => ?_⟩
  obtain ⟨F2, fp2, as, R2, s2, t⟩ := R1.take hio w1 e2
  exact q F2 _ _ H1 (R2.put hio t e3) (s1.trans s2)
theorem xs_set {i : Nat} {x : Str} {p' : Pos} {own : Bool} (hN : X.N.Nodup) (hi : X.N[i]? = some x) (hx : Loc X.env.scope x) (hf : X.fn x = true ∨ X.env.scope.names.lookup x = some .local) (hs : swapsWith e (some (.Name x p')) pos.line X.env = pure false) (ha : XP X io e f) :
    XS X io (.Assign [.Name x p'] e pos) (setS io i own f) := ps_weak (ps_set hN hi hx ha hs hf) fun _ _ _ h => set_open h

/-! ### targets: g stores, at the slots vs alone -/
abbrev FG := D → T → Res T
/-- nothing but the slots vs is otherwise -/
def Only (vs : List Nat) (σ σ' : L2.St) : Prop := σ'.length = σ.length ∧ ∀ j, j ∉ vs → σ'[j]? = σ[j]?
def rdG (K : PySem.W.Frag) (io vs : List Nat) (g : FG) : TG := fun v σ H Q => ∃ C F fp τ d τ', C.ios.map (·.1) = io ∧ Rel K C F fp τ σ H ∧ Rep K F d v ∧ g d τ = .ok τ' ∧
  ∀ F' fp' σ', Rel K C F' fp' τ' σ' H → Same F F' → Only vs σ σ' → Q σ' H
def XG (X : Cx) (io vs : List Nat) (e : Expr) (g : FG) : Prop := PG X e (rdG X.K io vs g)
theorem pg_weak {X : Cx} {e : Expr} {t t' : TG} (h : PG X e t) (w : ∀ v σ H Q, t' v σ H Q → t v σ H Q) : PG X e t' := ⟨fun pins s σ H v u Q I r q => h.run pins s σ H v u Q I r (w v σ H Q q)⟩
def nameG (io : List Nat) (i : Nat) : FG := fun d τ => putS io i (.fz d) τ
theorem xg_name {i : Nat} {x : Str} (hN : X.N.Nodup) (hi : X.N[i]? = some x) (hx : Loc X.env.scope x) (hf : X.fn x = true ∨ X.env.scope.names.lookup x = some .local) : XG X io [i] (.Name x pos) (nameG io i) := by
  refine pg_weak (pg_name hN hi hx hf) fun v σ H Q ⟨C, F, fp, τ, d, τ', hio, R, r, e, q⟩ => ?_
  exact q F _ _ (R.put hio r.tmp e) (Same.refl _) ⟨List.length_set, fun j hj => List.getElem?_set_ne fun z => hj (by simp [z])⟩
abbrev FGs := List D → T → Res T
def rdGs (K : PySem.W.Frag) (io vs : List Nat) (g : FGs) : TGs := fun us σ H Q => ∃ C F fp τ ds τ', C.ios.map (·.1) = io ∧ Rel K C F fp τ σ H ∧ Reps K F ds us ∧ g ds τ = .ok τ' ∧
  ∀ F' fp' σ', Rel K C F' fp' τ' σ' H → Same F F' → Only vs σ σ' → Q σ' H
def XGs (X : Cx) (io vs : List Nat) (es : List Expr) (g : FGs) : Prop := PGs X es (rdGs X.K io vs g)
theorem pgs_weak {X : Cx} {e : List Expr} {t t' : TGs} (h : PGs X e t) (w : ∀ v σ H Q, t' v σ H Q → t v σ H Q) : PGs X e t' := ⟨fun pins s σ H v u Q I r q => h.run pins s σ H v u Q I r (w v σ H Q q)⟩
def nilG : FGs := fun ds τ => match ds with
  | [] => .ok τ
  | _ => .bad
def consG (g : FG) (h : FGs) : FGs := fun ds τ => match ds with
  | d :: ds => (g d τ).bind fun τ1 => h ds τ1
  | [] => .bad
theorem assign_cons {e : Expr} {es : List Expr} {env : Env} (h : notStar e = true) : (assignEach (e :: es) env).map (·.2) = assign e env :: (assignEach es env).map (·.2) := by
  cases e <;> first | rfl | (exact absurd h (by simp [notStar]))
theorem xgs_nil : XGs X io [] [] nilG := pgs_weak pgs_nil fun v σ H Q ⟨C, F, fp, τ, ds, τ', hio, R, r, e, q⟩ => by
  cases ds with
  | nil =>
    cases e
    rw [Reps] at r
    exact ⟨r, q F fp σ R (Same.refl _) ⟨rfl, fun _ _ => rfl⟩⟩
  | cons d ds => cases e
theorem xgs_cons {t : Expr} {ts : List Expr} {g : FG} {h : FGs} {v1 v2 : List Nat} (hn : notStar t = true) (h1 : XG X io v1 t g) (h2 : XGs X io v2 ts h) : XGs X io (v1 ++ v2) (t :: ts) (consG g h) := by
  refine pgs_weak (pgs_cons h1 h2 (assign_cons hn)) fun v σ H Q ⟨C, F, fp, τ, ds, τ', hio, R, r, e, q⟩ => ?_
  cases ds with
  | nil => cases e
  | cons d ds =>
    obtain ⟨τ1, e1, e2⟩ := Res.bind_ok e
    rw [Reps] at r
    obtain ⟨u, us, rfl, r1, rs⟩ := r
    refine ⟨u, us, rfl, C, F, fp, τ, d, τ1, hio, R, r1, e1, fun F1 fp1 σ1 R1 s1 n1 => ⟨C, F1, fp1, τ1, ds, τ', hio, R1, rs.mono s1, e2, fun F2 fp2 σ2 R2 s2 n2 => q F2 fp2 σ2 R2 (s1.trans s2) ⟨n2.1.trans n1.1, fun j hj => ?_⟩⟩⟩
    rw [List.mem_append, not_or] at hj
    exact (n2.2 j hj.2).trans (n1.2 j hj.1)
def tupG (n : Nat) (h : FGs) : FG := fun d τ => match d with
  | .tup ds => if ds.length = n then h ds τ else .bad
  | _ => .bad
theorem assign_len {env : Env} : ∀ {es : List Expr}, es.all notStar = true → (assignEach es env).length = es.length ∧ (assignEach es env).findIdx? (·.1) = none
  | [], _ => ⟨rfl, rfl⟩
  | e :: es, h => by
    rw [List.all_cons, Bool.and_eq_true] at h
    obtain ⟨h1, h2⟩ := assign_len (env := env) h.2
    have hc : assignEach (e :: es) env = (false, assign e env) :: assignEach es env := by
      cases e <;> first | rfl | (exact absurd h.1 (by simp [notStar]))
    rw [hc]
    exact ⟨by rw [List.length_cons, List.length_cons, h1], by rw [List.findIdx?_cons]; simp [h2]⟩
theorem xg_tup {es : List Expr} {k : Nat} {h : FGs} {vs : List Nat} (hc : X.calm = true) (hn : es.all notStar = true) (hs : XGs X io vs es h) : XG X io vs (.Tuple es k pos) (tupG es.length h) := by
  obtain ⟨l1, l2⟩ := assign_len (env := X.env) hn
  refine pg_weak (pg_tup hc hs l1 l2) fun v σ H Q ⟨C, F, fp, τ, d, τ', hio, R, r, e, q⟩ => ?_
  unfold tupG at e
  split at e
  · rename_i ds
    split at e
    · rename_i hl
      rw [Rep] at r
      obtain ⟨a, vs, rfl, l, rs⟩ := r
      exact ⟨a, vs, rfl, sqt_mono R.sub l, by rw [← rs.length]; exact hl, C, F, fp, τ, ds, τ', hio, R, rs, e, q⟩
    · cases e
  · cases e
/-- target = e, the target a tuple -/
def asgS (io : List Nat) (g : FG) (f : FP) : FS := fun τ => (f τ).bind fun (p, τ1) => (settle io p τ1).bind fun (d, τ2) => (g d τ2).bind fun τ3 => .ok (.nx, τ3)
theorem asg_open {vs : List Nat} {g : FG} {D : Ends} {σ : L2.St} {H : Hp} (h : rdS X.K io (asgS io g f) D σ H) : tAsg (rdP X.K io f) (rdG X.K io vs g) D σ H := by
  obtain ⟨C, F, fp, τ, fl, τ', hio, R, e, q⟩ := h
  obtain ⟨⟨p, τ1⟩, e1, e⟩ := Res.bind_ok e
  obtain ⟨⟨r, τ2⟩, e2, e⟩ := Res.bind_ok e
  obtain ⟨τ3, e3, e⟩ := Res.bind_ok e
  cases e
  refine ⟨C, F, fp, τ, p, τ1, hio, R, e1, fun F1 fp1 H1 v R1 s1 w1 => ?_⟩
  obtain ⟨F2, fp2, R2, s2, t⟩ := R1.settle hio w1 e2
  exact ⟨C, F2, fp2, τ2, r, _, hio, R2, t, e3, fun F3 fp3 σ3 R3 s3 _ => q F3 fp3 σ3 H1 R3 ((s1.trans s2).trans s3)⟩
/-- no display on the right: nothing is exchanged -/
def isTuple : Expr → Bool
  | .Tuple _ _ _ => true
  | _ => false
theorem swapped_no {t e : Expr} {env : Env} (h : isTuple e = false) : swappedStores [t] e env = pure none := by
  unfold swappedStores
  cases e <;> first | (cases t <;> rfl) | (exact absurd h (by simp [isTuple]))
theorem xs_asg {t : Expr} {g : FG} {vs : List Nat} (hn : notStar t = true) (hc : isComp e = false) (hw : swappedStores [t] e X.env = pure none) (ht : XG X io vs t g) (ha : XP X io e f) : XS X io (.Assign [t] e pos) (asgS io g f) :=
  ps_weak (ps_asg ha ht (swaps_no hc) hw (assign_cons hn)) fun _ _ _ h => asg_open h
end
end Pf

/-! Pf6: loops; what they walk; several values at once; lists changed where they stand. -/
namespace Pf
open PySem PySem.Spec PyProof.Rows L2

/-! ### while -/
def whl (c : FP) (g : FS) : Nat → FS
  | 0 => fun _ => .bad
  | n + 1 => fun τ => (tru c τ).bind fun (k, τ1) => if k = true then (g τ1).bind fun (fl, τ2) => (match fl with
    | .nx => whl c g n τ2
    | .ct => whl c g n τ2
    | .bk => .ok (.nx, τ2)
    | .rt r => .ok (.rt r, τ2)) else .ok (.nx, τ1)
/-- the turns that a while may take here -/
def WF : Nat := 2 ^ 40
def whlS (c : FP) (g : FS) : FS := whl c g WF
section
variable {X : Cx} {io : List Nat} {pos : Pos} {s : Stmt} {ss : List Stmt} {f c : FP} {g h : FS} {e : Expr}
theorem xs_while {body : List Stmt} (hp : PassesOwn (model X.prog X.w) X.A X.env X.xe) (hc : XT X io e (tru c)) (hb : XB X io body g) : XS X io (.While e body [] pos) (whlS c g) := by
  refine ps_weak (ps_while hp hc hb) fun D σ H ⟨C, F, fp, τ, fl, τ', hio, R, e0, q⟩ => ?_
  refine ⟨fun m σ H => ∃ F1 fp1 τ1, Rel X.K C F1 fp1 τ1 σ H ∧ Same F F1 ∧ whl c g m τ1 = .ok (fl, τ'), ⟨WF, F, fp, τ, R, Same.refl _, e0⟩, ?_⟩
  rintro m σ1 H1 ⟨F1, fp1, τ1, R1, s1, e1⟩
  cases m with
  | zero => cases e1
  | succ m =>
    rw [whl] at e1
    obtain ⟨⟨k, τ2⟩, e2, e1⟩ := Res.bind_ok e1
    refine ⟨C, F1, fp1, τ1, k, τ2, hio, R1, e2, fun F2 fp2 H2 R2 s2 => ?_⟩
    cases k with
    | false =>
      have e1 : Res.ok (Fl.nx, τ2) = Res.ok (fl, τ') := e1
      cases e1
      exact q F2 fp2 σ1 H2 R2 (s1.trans s2)
    | true =>
      have e1 : ((g τ2).bind fun (fl, τ2) => (match fl with
        | .nx => whl c g m τ2
        | .ct => whl c g m τ2
        | .bk => .ok (.nx, τ2)
        | .rt r => .ok (.rt r, τ2))) = Res.ok (fl, τ') := e1
      obtain ⟨⟨fl3, τ3⟩, e3, e4⟩ := Res.bind_ok e1
      refine ⟨fun σ' H' => ∃ F1 fp1 τ1, Rel X.K C F1 fp1 τ1 σ' H' ∧ Same F F1 ∧ whl c g m τ1 = .ok (fl, τ'), fun σ' H' w => ⟨m, Nat.lt_succ_self _, w⟩, ?_⟩
      refine ⟨C, F2, fp2, τ2, fl3, τ3, hio, R2, e3, fun F3 fp3 σ3 H3 R3 s3 => ?_⟩
      have s13 := (s1.trans s2).trans s3
      cases fl3 with
      | nx => exact ⟨F3, fp3, τ3, R3, s13, e4⟩
      | ct => exact ⟨F3, fp3, τ3, R3, s13, e4⟩
      | bk => cases e4; exact q F3 fp3 σ3 H3 R3 s13
      | rt r => cases e4; exact q F3 fp3 σ3 H3 R3 s13

/-! ### what is walked -/
/-- the iterator hands out the items ds while what was frozen stays -/
structure Turns (K : PySem.W.Frag) (F : Hp) (J : It) (ds : List D) : Prop where
  go : ∀ i H, i < ds.length → Same F H → J.go i H
  stop : ∀ H, Same F H → J.stop ds.length H
  yld : ∀ i H x H' d, ds[i]? = some d → Same F H → J.yld i H x H' → ∀ F1, Same F F1 → Same F1 H → ∃ F2, Grow K F1 H (.fz d) x F2 H'
abbrev FI := T → Res (List D × T)
def rdI (K : PySem.W.Frag) (io : List Nat) (h : FI) : TI := fun σ H R => ∃ C F fp τ ds τ', C.ios.map (·.1) = io ∧ Rel K C F fp τ σ H ∧ h τ = .ok (ds, τ') ∧
  ∀ F' fp' H' J, Rel K C F' fp' τ' σ H' → Same F F' → Turns K F' J ds → R J H'
def XI (X : Cx) (io : List Nat) (tg e : Expr) (h : FI) : Prop := PI X tg e (rdI X.K io h)
theorem pi_weak {X : Cx} {tg e : Expr} {t t' : TI} (h : PI X tg e t) (w : ∀ σ H R, t' σ H R → t σ H R) : PI X tg e t' := ⟨fun pins s σ H R I q => h.run pins s σ H R I (w σ H R q)⟩
def forL (g : FG) (b : FS) : List D → FS
  | [] => nxS
  | d :: ds => fun τ => (g d τ).bind fun τ1 => (b τ1).bind fun (fl, τ2) => (match fl with
    | .nx => forL g b ds τ2
    | .ct => forL g b ds τ2
    | .bk => .ok (.nx, τ2)
    | .rt r => .ok (.rt r, τ2))
def forS (h : FI) (g : FG) (b : FS) : FS := fun τ => (h τ).bind fun (ds, τ1) => forL g b ds τ1
theorem folded_no {e : Expr} {env : Env} (h : ∀ es k p, e ≠ .Set es k p) : ∀ x, foldedSetIterable e env x = pure x := by
  intro x
  cases e <;> first | rfl | (exact absurd rfl (h _ _ _))
theorem drop_at {α : Type} {l : List α} {i : Nat} (h : i < l.length) : l.drop i = l[i] :: l.drop (i + 1) := List.drop_eq_getElem_cons h
theorem xs_for {tg iter : Expr} {body : List Stmt} {hi : FI} {gt : FG} {vs : List Nat} (hp : PassesOwn (model X.prog X.w) X.A X.env X.xe) (hc : X.calm = true) (hs : ∀ x, foldedSetIterable iter X.env x = pure x) (h1 : XI X io tg iter hi) (h2 : XG X io vs tg gt) (h3 : XB X io body g) :
    XS X io (.For tg iter body [] pos) (forS hi gt g) := by
  refine ps_weak (ps_for hp hc h1 h2 h3 hs) fun D σ H ⟨C, F, fp, τ, fl, τ', hio, R, e, q⟩ => ?_
  obtain ⟨⟨ds, τ1⟩, e1, e2⟩ := Res.bind_ok e
  refine ⟨C, F, fp, τ, ds, τ1, hio, R, e1, fun F1 fp1 H1 J R1 s1 t => ?_⟩
  refine ⟨fun i m σ H => m = ds.length - i ∧ i ≤ ds.length ∧ ∃ F2 fp2 τ2, Rel X.K C F2 fp2 τ2 σ H ∧ Same F1 F2 ∧ forL gt g (ds.drop i) τ2 = .ok (fl, τ'), ⟨ds.length, rfl, Nat.zero_le _, F1, fp1, τ1, R1, Same.refl _, e2⟩, ?_⟩
  rintro i m σ2 H2 ⟨rfl, hi2, F2, fp2, τ2, R2, s2, e3⟩
  by_cases hlt : i < ds.length
  · rw [drop_at hlt, forL] at e3
    obtain ⟨τ3, e4, e5⟩ := Res.bind_ok e3
    obtain ⟨⟨fl4, τ4⟩, e6, e7⟩ := Res.bind_ok e5
    refine .inr ⟨t.go i H2 hlt (s2.trans R2.sub), fun σ' H' => ∃ F2 fp2 τ2, Rel X.K C F2 fp2 τ2 σ' H' ∧ Same F1 F2 ∧ forL gt g (ds.drop (i + 1)) τ2 = .ok (fl, τ'), fun σ' H' w => ⟨ds.length - (i + 1), by omega, rfl, hlt, w⟩, fun x H3 y => ?_⟩
    obtain ⟨F3, gr⟩ := t.yld i H2 x H3 ds[i] (List.getElem?_eq_getElem hlt) (s2.trans R2.sub) y F2 s2 R2.sub
    obtain ⟨R3, as, tm⟩ := gr.rel R2
    have rx := tm.own
    rw [Own.fz_iff] at rx
    refine ⟨C, F3, fp2, τ2, ds[i], τ3, hio, R3, rx.2, e4, fun F4 fp4 σ4 R4 s4 _ => ?_⟩
    refine ⟨C, F4, fp4, τ3, fl4, τ4, hio, R4, e6, fun F5 fp5 σ5 H5 R5 s5 => ?_⟩
    have s15 : Same F1 F5 := ((s2.trans gr.frozen).trans s4).trans s5
    cases fl4 with
    | nx => exact ⟨F5, fp5, τ4, R5, s15, e7⟩
    | ct => exact ⟨F5, fp5, τ4, R5, s15, e7⟩
    | bk => cases e7; exact q F5 fp5 σ5 H5 R5 (s1.trans s15)
    | rt r => cases e7; exact q F5 fp5 σ5 H5 R5 (s1.trans s15)
  · have ei : i = ds.length := by omega
    subst ei
    rw [List.drop_length] at e3
    cases e3
    exact .inl ⟨t.stop H2 (s2.trans R2.sub), q F2 fp2 σ2 H2 R2 (s1.trans s2)⟩

/-! sources -/
def chars (z : Str) : List D := z.cps.toList.map fun c => .str ⟨#[c]⟩
def itemsOf : D → Option (List D)
  | .tup ds => some ds
  | .lst ds => some ds
  | .str z => some (chars z)
  | _ => none
def itF (io : List Nat) (f : FP) : FI := fun τ => (f τ).bind fun (p, τ1) => (settle io p τ1).bind fun (d, τ2) => match itemsOf d with
  | some ds => .ok (ds, τ2)
  | none => .bad
def iAny (K : PySem.W.Frag) (te : TE) : TI := fun σ H R => te σ H fun x H1 => (∃ a xs, x = .ref a ∧ SqL K H1 a xs ∧ R (Itl K a) H1) ∨ (∃ a xs, x = .ref a ∧ SqT K H1 a xs ∧ R (Itt K a) H1) ∨ ∃ z, x = .str z ∧ R (Its z) H1
theorem pi_any {tg : Expr} {te : TE} (he : PE X e te) : PI X tg e (iAny X.K te) := by
  refine ⟨fun pins s σ H R I w => ?_⟩
  refine thn (he.run pins s σ H _ I w) fun v s1 ⟨x, H1, I1, r1, q⟩ => ?_
  rcases q with ⟨a, xs, rfl, l, q⟩ | ⟨a, xs, rfl, l, q⟩ | ⟨z, rfl, q⟩
  · cases r1
    obtain ⟨its, rv, p, hz⟩ := I1.list l
    exact wpAny_pyIter_list p.isList (pi_one (tk := s1.toks) I1 _ (turn_list a _) ⟨_, Heap.get?_push_size _ rfl, rfl, rfl⟩ q)
  · cases r1
    obtain ⟨its, rv, p, hz⟩ := I1.tuple l
    exact wpAny_pyIter_tuple (show s1.heap.IsTuple a its.toArray from p) (pi_one (tk := s1.toks) I1 _ (turn_tuple a _) ⟨_, Heap.get?_push_size _ rfl, rfl, rfl⟩ q)
  · obtain ⟨t, rfl⟩ := r1
    cases ha : z.cps.all (· < 128) with
    | false => exact wpAny_pyIter_wide ha (pi_one (tk := s1.toks) I1 _ (turn_str _ z t "str_iterator" (.inr rfl)) ⟨_, Heap.get?_push_size _ rfl, rfl, rfl⟩ q)
    | true => exact wpAny_pyIter_ascii ha (pi_one (tk := s1.toks) I1 _ (turn_str _ z t "str_ascii_iterator" (.inl rfl)) ⟨_, Heap.get?_push_size _ rfl, rfl, rfl⟩ q)
theorem turns_list {K : PySem.W.Frag} {F : Hp} {a : Addr} {vs : List V} {ds : List D} (l : SqL K F a vs) (r : Reps K F ds vs) : Turns K F (Itl K a) ds where
  go := fun i H hi s => by
    have hv : i < vs.length := by rw [← r.length]; exact hi
    exact ⟨vs, vs[i], Same.seq s l, List.getElem?_eq_getElem hv⟩
  stop := fun H s => ⟨vs, Same.seq s l, Nat.le_of_eq r.length.symm⟩
  yld := fun i H x H' d hd s y F1 s1 s2 => by
    obtain ⟨rfl, y⟩ := y
    obtain ⟨v, ev, rv⟩ := r.get hd
    have := y vs (Same.seq s l)
    rw [ev] at this
    cases this
    exact ⟨F1, Grow.same s2 (rv.mono s1)⟩
theorem turns_tup {K : PySem.W.Frag} {F : Hp} {a : Addr} {vs : List V} {ds : List D} (l : SqT K F a vs) (r : Reps K F ds vs) : Turns K F (Itt K a) ds where
  go := fun i H hi s => by
    have hv : i < vs.length := by rw [← r.length]; exact hi
    exact ⟨vs, vs[i], sqt_mono s l, List.getElem?_eq_getElem hv⟩
  stop := fun H s => ⟨vs, sqt_mono s l, Nat.le_of_eq r.length.symm⟩
  yld := fun i H x H' d hd s y F1 s1 s2 => by
    obtain ⟨rfl, y⟩ := y
    obtain ⟨v, ev, rv⟩ := r.get hd
    have := y vs (sqt_mono s l)
    rw [ev] at this
    cases this
    exact ⟨F1, Grow.same s2 (rv.mono s1)⟩
theorem chars_len (z : Str) : (chars z).length = z.cps.size := by unfold chars; rw [List.length_map, Array.length_toList]
theorem turns_str {K : PySem.W.Frag} {F : Hp} (z : Str) : Turns K F (Its z) (chars z) where
  go := fun i H hi s => by rw [chars_len] at hi; exact hi
  stop := fun H s => Nat.le_of_eq (chars_len z).symm
  yld := fun i H x H' d hd s y F1 s1 s2 => by
    obtain ⟨rfl, c, ec, rfl⟩ := y
    unfold chars at hd
    rw [List.getElem?_map, Array.getElem?_toList, ec] at hd
    cases hd
    exact ⟨F1, Grow.same s2 (by rw [Rep])⟩
theorem xi_it {tg : Expr} (he : XP X io e f) : XI X io tg e (itF io f) := by
  refine pi_weak (pi_any he) fun σ H R ⟨C, F, fp, τ, ds, τ', hio, R0, e, q⟩ => ?_
  obtain ⟨⟨p, τ1⟩, e1, e⟩ := Res.bind_ok e
  obtain ⟨⟨d, τ2⟩, e2, e⟩ := Res.bind_ok e
  refine ⟨C, F, fp, τ, p, τ1, hio, R0, e1, fun F1 fp1 H1 v R1 s1 w1 => ?_⟩
  obtain ⟨F2, fp2, R2, s2, w2⟩ := R1.settle hio w1 e2
  dsimp only at e
  cases d with
  | tup xs =>
    cases e
    rw [Rep] at w2
    obtain ⟨a, vs, rfl, l, rr⟩ := w2
    exact .inr (.inl ⟨a, vs, rfl, sqt_mono R2.sub l, q F2 fp2 H1 _ R2 (s1.trans s2) (turns_tup l rr)⟩)
  | lst xs =>
    cases e
    rw [Rep] at w2
    obtain ⟨a, vs, rfl, l, rr⟩ := w2
    exact .inl ⟨a, vs, rfl, (l.mono R2.sub).sql, q F2 fp2 H1 _ R2 (s1.trans s2) (turns_list l.sql rr)⟩
  | str z =>
    cases e
    rw [Rep] at w2
    exact .inr (.inr ⟨z, w2, q F2 fp2 H1 _ R2 (s1.trans s2) (turns_str z)⟩)
  | _ => cases e
/-- range of one, two, three ints -/
def rangeL (lo : Int) (n : Nat) (c : Int) : List D := (List.range n).map fun i => .int (lo + (i : Nat) * c)
def okR (i : Int) : Bool := decide (-(2 ^ 62) ≤ i ∧ i < 2 ^ 62)
def range1S : List OV → Res (List D)
  | [.fz (.int j)] => gd (okR j) (rangeL 0 j.toNat 1)
  | _ => .bad
def range2S : List OV → Res (List D)
  | [.fz (.int i), .fz (.int j)] => gd (okR i && okR j) (rangeL i (j - i).toNat 1)
  | _ => .bad
def range3S : List OV → Res (List D)
  | [.fz (.int i), .fz (.int j), .fz (.int c)] => gd (decide (c ≠ 0 ∧ c.natAbs < 1073741824 ∧ 0 ≤ Builtin.Range.rangeSize i j c) && Builtin.Range.small i j c) (rangeL i (Builtin.Range.rangeSize i j c).toNat c)
  | _ => .bad
def rngF (k : List OV → Res (List D)) (h : FA) : FI := fun τ => (h τ).bind fun (ps, τ1) => match vws τ1 ps with
  | some os => (k os).bind fun ds => .ok (ds, τ1)
  | none => .bad
theorem rangeL_get {lo : Int} {n : Nat} {c : Int} {i : Nat} {d : D} (h : (rangeL lo n c)[i]? = some d) : d = .int (lo + (i : Nat) * c) ∧ i < n := by
  unfold rangeL at h
  rw [List.getElem?_map] at h
  by_cases hi : i < n
  · rw [List.getElem?_range hi] at h
    cases h
    exact ⟨rfl, hi⟩
  · rw [List.getElem?_eq_none (by rw [List.length_range]; omega)] at h
    cases h
theorem rangeL_len {lo : Int} {n : Nat} {c : Int} : (rangeL lo n c).length = n := by unfold rangeL; rw [List.length_map, List.length_range]
theorem turns_rng {K : PySem.W.Frag} {F : Hp} {lo : Int} {n : Nat} : Turns K F (Itr lo n) (rangeL lo n 1) where
  go := fun i H hi s => by rw [rangeL_len] at hi; exact hi
  stop := fun H s => Nat.le_of_eq rangeL_len.symm
  yld := fun i H x H' d hd s y F1 s1 s2 => by
    obtain ⟨rfl, rfl⟩ := y
    obtain ⟨rfl, _⟩ := rangeL_get hd
    exact ⟨F1, Grow.same s2 (by rw [Rep, Int.mul_one])⟩
theorem turns_rngC {K : PySem.W.Frag} {F : Hp} {lo c : Int} {n : Nat} : Turns K F (Itc lo c n) (rangeL lo n c) where
  go := fun i H hi s => by rw [rangeL_len] at hi; exact hi
  stop := fun H s => Nat.le_of_eq rangeL_len.symm
  yld := fun i H x H' d hd s y F1 s1 s2 => by
    obtain ⟨rfl, rfl⟩ := y
    obtain ⟨rfl, _⟩ := rangeL_get hd
    exact ⟨F1, Grow.same s2 (by rw [Rep])⟩
theorem star_list {es : List Expr} {env : Env} (h : es.all notStar = true) : starEach es env = es.map fun e => (false, eval e env) := by
  induction es with
  | nil => rfl
  | cons e es ih =>
    rw [List.all_cons, Bool.and_eq_true] at h
    rw [star_cons h.1, ih h.2]
    rfl
theorem rng_open {k : List OV → Res (List D)} {h : FA} {σ : L2.St} {H : Hp} {R : It → Hp → Prop} (w : rdI X.K io (rngF k h) σ H R) :
    rdA X.K io h σ H fun vs H1 => ∃ F os ds, Same F H1 ∧ Views X.K F H1 os vs ∧ k os = .ok ds ∧ ∀ J, Turns X.K F J ds → R J H1 := by
  obtain ⟨C, F, fp, τ, ds, τ', hio, R0, e, q⟩ := w
  obtain ⟨⟨ps, τ1⟩, e1, e⟩ := Res.bind_ok e
  refine ⟨C, F, fp, τ, ps, τ1, hio, R0, e1, fun F1 fp1 H1 vs R1 s1 w1 => ?_⟩
  dsimp only at e
  cases hx : vws τ1 ps with
  | none => rw [hx] at e; cases e
  | some os =>
    rw [hx] at e
    obtain ⟨xs, e2, e⟩ := Res.bind_ok e
    cases e
    exact ⟨F1, os, _, R1.sub, R1.vws w1 hx, e2, fun J t => q F1 fp1 H1 J R1 s1 t⟩
theorem xi_range1 {tg a : Expr} {p : Pos} {h : FA} (hg : Gl X "range") (hm : X.mg "range" = none) (hn : [a].all notStar = true) (ha : XA X io [a] h) : XI X io tg (.Call (.Name "range" p) [a] [] pos) (rngF range1S h) := by
  refine pi_weak (pi_range1 hg hm ha (star_list hn)) fun σ H R w => ?_
  obtain ⟨C, F, fp, τ, ps, τ1, hio, R0, e1, q⟩ := rng_open w
  refine ⟨C, F, fp, τ, ps, τ1, hio, R0, e1, fun F1 fp1 H1 vs R1 s1 w1 => ?_⟩
  obtain ⟨F2, os, ds, sm, wv, e2, q2⟩ := q F1 fp1 H1 vs R1 s1 w1
  unfold range1S at e2
  split at e2
  · obtain ⟨v, rfl, w⟩ := wv.one
    obtain ⟨hz, rfl⟩ := gd_ok e2
    have hz := of_decide_eq_true hz
    exact ⟨_, by rw [w.int], hz.1, hz.2, q2 _ turns_rng⟩
  · cases e2
theorem xi_range2 {tg a b : Expr} {p : Pos} {h : FA} (hg : Gl X "range") (hm : X.mg "range" = none) (hn : [a, b].all notStar = true) (ha : XA X io [a, b] h) : XI X io tg (.Call (.Name "range" p) [a, b] [] pos) (rngF range2S h) := by
  have hn2 : [b].all notStar = true := by
    rw [List.all_cons, Bool.and_eq_true] at hn
    exact hn.2
  refine pi_weak (pi_range2 hg hm ha (star_list hn) (star_list hn2)) fun σ H R w => ?_
  obtain ⟨C, F, fp, τ, ps, τ1, hio, R0, e1, q⟩ := rng_open w
  refine ⟨C, F, fp, τ, ps, τ1, hio, R0, e1, fun F1 fp1 H1 vs R1 s1 w1 => ?_⟩
  obtain ⟨F2, os, ds, sm, wv, e2, q2⟩ := q F1 fp1 H1 vs R1 s1 w1
  unfold range2S at e2
  split at e2
  · obtain ⟨v, u, rfl, w, w2⟩ := wv.two
    obtain ⟨hz, rfl⟩ := gd_ok e2
    rw [Bool.and_eq_true] at hz
    have h1 := of_decide_eq_true hz.1
    have h2 := of_decide_eq_true hz.2
    exact ⟨_, _, by rw [w.int, w2.int], ⟨h1.1, h1.2, h2.1, h2.2⟩, q2 _ turns_rng⟩
  · cases e2
theorem xi_range3 {tg a b d : Expr} {p : Pos} {h : FA} (hg : Gl X "range") (hm : X.mg "range" = none) (hn : [a, b, d].all notStar = true) (ha : XA X io [a, b, d] h) : XI X io tg (.Call (.Name "range" p) [a, b, d] [] pos) (rngF range3S h) := by
  have hn' := hn
  rw [List.all_cons, Bool.and_eq_true] at hn'
  refine pi_weak (pi_range3 hg hm ha (star_cons hn'.1) (star_any hn'.2)) fun σ H R w => ?_
  obtain ⟨C, F, fp, τ, ps, τ1, hio, R0, e1, q⟩ := rng_open w
  refine ⟨C, F, fp, τ, ps, τ1, hio, R0, e1, fun F1 fp1 H1 vs R1 s1 w1 => ?_⟩
  obtain ⟨F2, os, ds, sm, wv, e2, q2⟩ := q F1 fp1 H1 vs R1 s1 w1
  unfold range3S at e2
  split at e2
  · obtain ⟨v, u, t, rfl, w, w2, w3⟩ := wv.three
    obtain ⟨hz, rfl⟩ := gd_ok e2
    rw [Bool.and_eq_true] at hz
    have h1 := of_decide_eq_true hz.1
    exact ⟨_, _, _, _, by rw [w.int, w2.int, w3.int], ⟨h1.1, h1.2.1, hz.2, by omega⟩, q2 _ turns_rngC⟩
  · cases e2
/-- enumerate of a list -/
def enumL : Nat → List D → List D
  | _, [] => []
  | i, d :: ds => .tup [.int i, d] :: enumL (i + 1) ds
theorem enumL_get : ∀ {ds : List D} {k i : Nat} {e : D}, (enumL k ds)[i]? = some e → ∃ d, ds[i]? = some d ∧ e = .tup [.int ((k + i : Nat)), d]
  | [], _, _, _, h => by simp [enumL] at h
  | d :: ds, k, 0, e, h => by
    simp [enumL] at h
    exact ⟨d, rfl, h.symm⟩
  | d :: ds, k, i + 1, e, h => by
    rw [enumL, List.getElem?_cons_succ] at h
    obtain ⟨d', h1, h2⟩ := enumL_get h
    exact ⟨d', by simpa using h1, by rw [h2, show k + 1 + i = k + (i + 1) by omega]⟩
theorem enumL_len : ∀ (ds : List D) (k : Nat), (enumL k ds).length = ds.length
  | [], _ => rfl
  | d :: ds, k => by rw [enumL, List.length_cons, List.length_cons, enumL_len ds]
theorem pair_grow {K : PySem.W.Frag} {F H : Hp} {p : Addr} {d e : D} {x y : V} (s : Same F H) (n : H p = none) (r1 : Rep K F d x) (r2 : Rep K F e y) : Grow K F H (.fz (.tup [d, e])) (.ref p) (upd F p (.tup [x, y])) (upd H p (.tup [x, y])) :=
  Grow.tup s n (Reps.cons r1 (Reps.cons r2 Reps.nil))
theorem turns_enum {K : PySem.W.Frag} {F : Hp} {a : Addr} {vs : List V} {ds : List D} (l : SqL K F a vs) (r : Reps K F ds vs) : Turns K F (Ite K a) (enumL 0 ds) where
  go := fun i H hi s => by
    rw [enumL_len] at hi
    have hv : i < vs.length := by rw [← r.length]; exact hi
    exact walk_enum.goes i H hv (Same.seq s l)
  stop := fun H s => by
    rw [enumL_len, r.length]
    exact walk_enum.stops H (Same.seq s l)
  yld := fun i H x H' d hd s y F1 s1 s2 => by
    obtain ⟨e, he, rfl⟩ := enumL_get hd
    obtain ⟨v, ev, rv⟩ := r.get he
    have hv : i < vs.length := (List.getElem?_eq_some_iff.mp ev).1
    obtain ⟨p, x1, x2, rfl, np, rfl, e1, e2⟩ := walk_enum.yields i H x H' hv (Same.seq s l) y
    cases e1
    have e2 : vs[i]? = some x2 := e2
    rw [ev] at e2
    cases e2
    exact ⟨_, pair_grow s2 np (by rw [Rep, Nat.zero_add]) (rv.mono s1)⟩
/-! enumerate of a tuple -/
theorem meets_enum1 {v : Value} {o : Obj} {G : Heap → Prop} (B : Begins v o G) :
    Meets (Builtin.«enumerate.__new__» ⟨[.type "enumerate", v], []⟩) (fun _ R s => G s.heap ∧
      R (.ok (.ret (.ref (s.heap.push o).objs.size))) { s with heap := (s.heap.push o).push { cls := .type "enumerate", data := .fields #[.none, .bool false, .ref s.heap.objs.size, rawInt 0, .none, .none] } }) :=
  .of_wp fun prog w A R s h => by
    obtain ⟨hp, g, d, tk, os⟩ := s
    obtain ⟨h1, h⟩ := h
    have hsub := sub_enumerate
    have q1 : ∀ {A' : Around} {E Q : Value → Shared → Prop}, Q (.ref hp.objs.size) ⟨hp.push o, g, d, tk, os⟩ → wpAny (model prog w) A' (pyIter v) Q E ⟨hp, g, d, tk, os⟩ := fun q => B.iter prog w _ _ ⟨hp, g, d, tk, os⟩ _ h1 q
    wp_walk using q1
    refine wpAny_stack_any fun st => wpAny_pure ?_
    split
    · rename_i c _ _ _ _ _
      cases (c == Value.type "enumerate") <;> (wp_walk using q1; exact ⟨_, rfl, h⟩)
    · wp_walk using q1
      exact ⟨_, rfl, h⟩
theorem enum1_begins {prog : Program} {w : World} {A : Around} {E : Value → Shared → Prop} {s : Shared} {v : Value} {o : Obj} {G : Heap → Prop} {Q : Value → Shared → Prop} (B : Begins v o G) (h1 : G s.heap)
    (h : ∀ h', IsEnum h' (s.heap.objs.size + 1) s.heap.objs.size 0 .none → h'.get? s.heap.objs.size = some o → (∀ b u, s.heap.get? b = some u → h'.get? b = some u) → Q (.ref (s.heap.objs.size + 1)) { s with heap := h' }) :
    wpAny (model prog w) A (call (.type "enumerate") [v]) Q E s := by
  refine callType_new F.called_enumerate (by decide) (F.typeCall_enumerate_1 _) (F.newCall_enumerate_1 _) (fun obj => F.args_object_init_2 obj _) F.entry_enumerate_new (meets_enum1 B) ⟨h1, ?_⟩
  have hz : (s.heap.push o).objs.size = s.heap.objs.size + 1 := Heap.size_push ..
  have he := Heap.get?_push_size (s.heap.push o) (o := { cls := .type "enumerate", data := .fields #[.none, .bool false, .ref s.heap.objs.size, rawInt 0, .none, .none] }) rfl
  show _ ∧ _
  rw [hz] at he ⊢
  exact ⟨⟨_, he, rfl⟩, h _ he (Heap.get?_push_of_some _ (Heap.get?_push_size _ B.free)) fun b u x => Heap.get?_push_of_some _ (Heap.get?_push_of_some _ x)⟩
def IteT (K : PySem.W.Frag) (a : Addr) : It :=
  ⟨fun i H => ∃ (xs : List V) (x : V), SqT K H a xs ∧ xs[i]? = some x, fun i H v H' => ∃ p x, v = .ref p ∧ H p = none ∧ H' = upd H p (.tup [.int (i : Nat), x]) ∧ ∀ xs, SqT K H a xs → xs[i]? = some x, fun i H => ∃ xs : List V, SqT K H a xs ∧ xs.length = i⟩
theorem turn_enumT {P : Program} {w : World} {K : PySem.W.Frag} {elts : List Expr} {kk : Nat} {tpos : Pos} (a c it : Addr) (hne : c ≠ it) :
    Turn P w K (.Tuple elts kk tpos) (IteT K a) [c, it] c (fun i h => (∃ old, IsEnum h c it ((i : Nat) : Int) old) ∧ h.IsTupleIter it a i) where
  mem := by simp
  obj := fun i h st b hb => by
    obtain ⟨⟨old, he⟩, ⟨o, ho, hc, hd⟩⟩ := st
    have e' : b = c ∨ b = it := by simpa using hb
    rcases e' with z | z
    · rw [z]; exact ⟨_, he, fun v q => nomatch q⟩
    · rw [z]; exact ⟨o, ho, fun v q => by rw [hd] at q; cases q⟩
  keep := fun i h h' st k => let ⟨⟨old, he⟩, hi⟩ := st; ⟨⟨old, k c (by simp) _ he⟩, hi.at fun o q => k it (by simp) o q⟩
  item := by
    intro X hP hw hK hc i pins s σ H E I hf st hg
    subst hP hw hK
    obtain ⟨⟨old, he⟩, hit⟩ := st
    obtain ⟨xs, x, hq, hx⟩ := hg
    obtain ⟨its, rv, p, hz⟩ := I.tuple hq
    obtain ⟨u, hu, ru⟩ := rv.get hx
    have hel : c < s.heap.objs.size := Heap.lt_size he
    have hil : it < s.heap.objs.size := by obtain ⟨_, q, _⟩ := hit; exact Heap.lt_size q
    have hai : a ≠ it := by
      intro z
      obtain ⟨o1, q1, c1, _⟩ := hit
      obtain ⟨o2, q2, c2, _⟩ := p
      rw [z, q1] at q2; cases q2
      rw [c1] at c2
      exact absurd c2 (by simp)
    have hac : c ≠ a := by
      intro z
      obtain ⟨o2, q2, c2, _⟩ := p
      rw [← z] at q2
      have := he.symm.trans q2
      cases this
      exact absurd c2 (by simp)
    have hi : i < its.toArray.size := by
      rw [List.size_toArray, ← rv.length]
      exact (List.getElem?_eq_some_iff.mp hx).1
    have W := GoesN.enumFrom (prog := X.prog) (w := X.w) (A := X.A) (elts := elts) (x1 := kk) (pos := tpos) 0 (Draws.tuple (A := X.A.in1) (I.ok.hd hc) it a hai its.toArray) c hne (by simp [hne, hac]) (by simp)
    refine W.goes i s _ _ hi ⟨⟨old, by rw [Int.zero_add]; exact he⟩, hit, p⟩ fun v h' tk hy st' hk htk => ?_
    obtain ⟨q, t, y, rfl, hnew, hpy, hT⟩ := hy
    obtain ⟨⟨old', he'⟩, hit', _⟩ := st'
    have ey : y = u := by
      have h1 : its.toArray[i]? = some y := hpy
      rw [List.getElem?_toArray, hu] at h1
      cases h1; rfl
    subst ey
    have new : ObjOk X.prog X.w (upd H q (.tup [.int (i : Nat), x])) h' q (.tup [.int (i : Nat), x]) := by
      refine ⟨by show 2 ≤ sizeLine; decide, [.int (0 + (i : Int)) t, y], .cons ⟨t, by rw [Int.zero_add]⟩ (.cons ru .nil), hT⟩
    have I1 := I.turnedNew (ch := [c, it]) (t' := tk) (fun b ob hb z => hk b ob hb z) hf hnew new
    refine ⟨.ref q, _, I1, rfl, ⟨q, x, rfl, I.hok.fresh hnew, rfl, fun ys hy => by rw [I.tuple_inj hy hq]; exact hx⟩, ⟨⟨old', ?_⟩, hit'⟩, fun b hb => ?_⟩
    · have e1 : ((i + 1 : Nat) : Int) = 0 + ((i + 1 : Nat) : Int) := by omega
      rw [e1]; exact he'
    · have hb' : b < s.heap.objs.size := by
        have e' : b = c ∨ b = it := by simpa using hb
        rcases e' with z | z
        · rw [z]; exact hel
        · rw [z]; exact hil
      rw [upd_ne (Nat.ne_of_lt (Nat.lt_of_lt_of_le hb' hnew))]
      exact (hf b hb).1
  done := by
    intro X hP hw hK hc i pins s σ H E I hf st hg
    subst hP hw hK
    obtain ⟨⟨old, he⟩, hit⟩ := st
    obtain ⟨xs, hq, hx⟩ := hg
    obtain ⟨its, rv, p, hz⟩ := I.tuple hq
    have hai : a ≠ it := by
      intro z
      obtain ⟨o1, q1, c1, _⟩ := hit
      obtain ⟨o2, q2, c2, _⟩ := p
      rw [z, q1] at q2; cases q2
      rw [c1] at c2
      exact absurd c2 (by simp)
    have hac : c ≠ a := by
      intro z
      obtain ⟨o2, q2, c2, _⟩ := p
      rw [← z] at q2
      have := he.symm.trans q2
      cases this
      exact absurd c2 (by simp)
    have hi : i = its.toArray.size := by rw [List.size_toArray, ← rv.length]; exact hx.symm
    have W := GoesN.enumFrom (prog := X.prog) (w := X.w) (A := X.A) (elts := elts) (x1 := kk) (pos := tpos) 0 (Draws.tuple (A := X.A.in1) (I.ok.hd hc) it a hai its.toArray) c hne (by simp [hne, hac]) (by simp)
    refine W.stops s (fun s1 => Inv X pins σ H s1) _ (by rw [← hi]; exact ⟨⟨old, by rw [Int.zero_add]; exact he⟩, hit, p⟩) fun h' tk hk _ => ?_
    exact I.turnedL (ch := [c, it]) (t' := tk) (fun b o hb z => hk b o hb z) hf
  self := fun A i s Q E st h => let ⟨⟨_, he⟩, _⟩ := st; wpAny_pyIter_enum he h
def datL (k : List D → List D) : List OV → Res (List D)
  | [.fz (.lst ds)] => .ok (k ds)
  | [.fz (.tup ds)] => .ok (k ds)
  | _ => .bad
theorem turns_zip {K : PySem.W.Frag} {F : Hp} {a b : Addr} {vs ws : List V} {ds es : List D} (l : SqL K F a vs) (l2 : SqL K F b ws) (r : Reps K F ds vs) (r2 : Reps K F es ws) : Turns K F (Itz K a b) (List.zipWith (fun x y => .tup [x, y]) ds es) where
  go := fun i H hi s => (walk_zip (n := min vs.length ws.length) rfl).goes i H (by rw [List.length_zipWith, r.length, r2.length] at hi; exact hi) ⟨Same.seq s l, Same.seq s l2⟩
  stop := fun H s => by
    rw [List.length_zipWith, r.length, r2.length]
    exact (walk_zip rfl).stops H ⟨Same.seq s l, Same.seq s l2⟩
  yld := fun i H x H' d hd s y F1 s1 s2 => by
    rw [List.getElem?_zipWith] at hd
    cases h1 : ds[i]? with
    | none => rw [h1] at hd; simp at hd
    | some d1 =>
      cases h2 : es[i]? with
      | none => rw [h1, h2] at hd; simp at hd
      | some d2 =>
        rw [h1, h2] at hd
        simp at hd
        subst hd
        obtain ⟨v, ev, rv⟩ := r.get h1
        obtain ⟨w, ew, rw2⟩ := r2.get h2
        have hv : i < vs.length := (List.getElem?_eq_some_iff.mp ev).1
        have hw : i < ws.length := (List.getElem?_eq_some_iff.mp ew).1
        obtain ⟨p, x1, x2, rfl, np, rfl, e1, e2⟩ := (walk_zip (n := min vs.length ws.length) rfl).yields i H x H' (by omega) ⟨Same.seq s l, Same.seq s l2⟩ y
        have e1 : vs[i]? = some x1 := e1
        have e2 : ws[i]? = some x2 := e2
        rw [ev] at e1
        rw [ew] at e2
        cases e1
        cases e2
        exact ⟨_, pair_grow s2 np (rv.mono s1) (rw2.mono s1)⟩
theorem turns_enumT {K : PySem.W.Frag} {F : Hp} {a : Addr} {vs : List V} {ds : List D} (l : SqT K F a vs) (r : Reps K F ds vs) : Turns K F (IteT K a) (enumL 0 ds) where
  go := fun i H hi s => by
    rw [enumL_len] at hi
    have hv : i < vs.length := by rw [← r.length]; exact hi
    exact ⟨vs, vs[i], sqt_mono s l, List.getElem?_eq_getElem hv⟩
  stop := fun H s => ⟨vs, sqt_mono s l, by rw [enumL_len, r.length]⟩
  yld := fun i H x H' d hd s y F1 s1 s2 => by
    obtain ⟨e, he, rfl⟩ := enumL_get hd
    obtain ⟨v, ev, rv⟩ := r.get he
    obtain ⟨p, x2, rfl, np, rfl, e2⟩ := y
    have e2 := e2 vs (sqt_mono s l)
    rw [ev] at e2
    cases e2
    exact ⟨_, pair_grow s2 np (by rw [Rep, Nat.zero_add]) (rv.mono s1)⟩
theorem turns_zipT {K : PySem.W.Frag} {F : Hp} {a b : Addr} {vs ws : List V} {ds es : List D} (l : SqT K F a vs) (l2 : SqT K F b ws) (r : Reps K F ds vs) (r2 : Reps K F es ws) : Turns K F (RZ.ItzT K a b) (List.zipWith (fun x y => .tup [x, y]) ds es) where
  go := fun i H hi s => by
    rw [List.length_zipWith, r.length, r2.length] at hi
    have h1 : i < vs.length := by omega
    have h2 : i < ws.length := by omega
    exact ⟨vs, ws, vs[i], ws[i], sqt_mono s l, sqt_mono s l2, List.getElem?_eq_getElem h1, List.getElem?_eq_getElem h2⟩
  stop := fun H s => ⟨vs, ws, sqt_mono s l, sqt_mono s l2, by rw [List.length_zipWith, r.length, r2.length]; omega⟩
  yld := fun i H x H' d hd s y F1 s1 s2 => by
    rw [List.getElem?_zipWith] at hd
    cases h1 : ds[i]? with
    | none => rw [h1] at hd; simp at hd
    | some d1 =>
      cases h2 : es[i]? with
      | none => rw [h1, h2] at hd; simp at hd
      | some d2 =>
        rw [h1, h2] at hd
        simp at hd
        subst hd
        obtain ⟨v, ev, rv⟩ := r.get h1
        obtain ⟨w, ew, rw2⟩ := r2.get h2
        obtain ⟨p, x1, x2, rfl, np, rfl, e1, e2⟩ := y
        have e1 := e1 vs (sqt_mono s l)
        have e2 := e2 ws (sqt_mono s l2)
        rw [ev] at e1
        rw [ew] at e2
        cases e1
        cases e2
        exact ⟨_, pair_grow s2 np (rv.mono s1) (rw2.mono s1)⟩
def iEnumA (K : PySem.W.Frag) (ta : TA) : TI := fun σ H R => ta σ H fun vs H1 => ∃ a xs, vs = [.ref a] ∧ ((SqL K H1 a xs ∧ R (Ite K a) H1) ∨ (SqT K H1 a xs ∧ R (IteT K a) H1))
theorem pi_enumA {e : Expr} {ta : TA} {p tpos : Pos} {elts : List Expr} {kk : Nat} (hg : Gl X "enumerate") (hm : X.mg "enumerate" = none) (ha : PA X [e] ta) (hs : starEach [e] X.env = [(false, eval e X.env)]) :
    PI X (.Tuple elts kk tpos) (.Call (.Name "enumerate" p) [e] [] pos) (iEnumA X.K ta) := by
  refine ⟨fun pins s σ H R I h => ?_⟩
  refine Call_ (ld_blt I hg hm boot_enumerate (PyProof.Rows.callWith_type1 (thn (ha.run pos pins s σ H _ I h) fun us s1 ⟨vs, H1, I1, r1, q1⟩ => ?_) hs rfl))
  obtain ⟨a, xs, rfl, q⟩ := q1
  obtain ⟨u, rfl, ru⟩ := vals1 r1
  cases ru
  have hle : ∀ b ∈ [s1.heap.objs.size + 1, s1.heap.objs.size], s1.heap.objs.size ≤ b := fun b hb => by
    have e' : b = s1.heap.objs.size + 1 ∨ b = s1.heap.objs.size := by simpa using hb
    rcases e' with z | z
    · rw [z]; exact Nat.le_add_right _ _
    · rw [z]; exact Nat.le_refl _
  rcases q with ⟨l, q⟩ | ⟨l, q⟩
  · obtain ⟨its, rv, p', hz⟩ := I1.list l
    refine call_enumerate_list p'.isList fun h' he hit hsz hk => wpAny_pyIter_enum he ?_
    exact ⟨s1.heap.objs.size + 1, [s1.heap.objs.size + 1, s1.heap.objs.size], _, _, H1, rfl, I1.kept (t' := s1.toks) hk, turn_enum a _ _, ⟨⟨.none, he⟩, hit, Nat.succ_ne_self _⟩, fun b hb => I1.fpOk (hle b hb) (I1.hok.fresh (hle b hb)), q⟩
  · obtain ⟨its, rv, p', hz⟩ := I1.tuple l
    refine enum1_begins (begins_tuple a its.toArray) p' fun h' he hit hk => wpAny_pyIter_enum he ?_
    exact ⟨s1.heap.objs.size + 1, [s1.heap.objs.size + 1, s1.heap.objs.size], _, _, H1, rfl, I1.kept (t' := s1.toks) hk, turn_enumT a _ _ (Nat.succ_ne_self _), ⟨⟨.none, he⟩, ⟨_, hit, rfl, rfl⟩⟩, fun b hb => I1.fpOk (hle b hb) (I1.hok.fresh (hle b hb)), q⟩
theorem xi_enum {a : Expr} {p tpos : Pos} {elts : List Expr} {kk : Nat} {h : FA} (hg : Gl X "enumerate") (hm : X.mg "enumerate" = none) (hn : [a].all notStar = true) (ha : XA X io [a] h) :
    XI X io (.Tuple elts kk tpos) (.Call (.Name "enumerate" p) [a] [] pos) (rngF (datL (enumL 0)) h) := by
  refine pi_weak (pi_enumA hg hm ha (star_list hn)) fun σ H R w => ?_
  obtain ⟨C, F, fp, τ, ps, τ1, hio, R0, e1, q⟩ := rng_open w
  refine ⟨C, F, fp, τ, ps, τ1, hio, R0, e1, fun F1 fp1 H1 vs R1 s1 w1 => ?_⟩
  obtain ⟨F2, os, ds, sm, wv, e2, q2⟩ := q F1 fp1 H1 vs R1 s1 w1
  unfold datL at e2
  split at e2
  · obtain ⟨v, rfl, w⟩ := wv.one
    cases e2
    have w := w.fz
    rw [Rep] at w
    obtain ⟨x, ws, rfl, l, rr⟩ := w
    exact ⟨x, ws, rfl, .inl ⟨(l.mono sm).sql, q2 _ (turns_enum l.sql rr)⟩⟩
  · obtain ⟨v, rfl, w⟩ := wv.one
    cases e2
    have w := w.fz
    rw [Rep] at w
    obtain ⟨x, ws, rfl, l, rr⟩ := w
    exact ⟨x, ws, rfl, .inr ⟨sqt_mono sm l, q2 _ (turns_enumT l rr)⟩⟩
  · cases e2
def zip2S : List OV → Res (List D)
  | [.fz (.lst ds), .fz (.lst es)] => .ok (List.zipWith (fun x y => .tup [x, y]) ds es)
  | [.fz (.tup ds), .fz (.tup es)] => .ok (List.zipWith (fun x y => .tup [x, y]) ds es)
  | _ => .bad
theorem xi_zip {a b : Expr} {p tpos : Pos} {elts : List Expr} {kk : Nat} {h : FA} (hg : Gl X "zip") (hm : X.mg "zip" = none) (hn : [a, b].all notStar = true) (ha : XA X io [a, b] h) :
    XI X io (.Tuple elts kk tpos) (.Call (.Name "zip" p) [a, b] [] pos) (rngF zip2S h) := by
  have hn' := hn
  rw [List.all_cons, Bool.and_eq_true] at hn'
  refine pi_weak (RZ.pi_zipA hg hm ha (star_cons hn'.1) (star_any hn'.2)) fun σ H R w => ?_
  obtain ⟨C, F, fp, τ, ps, τ1, hio, R0, e1, q⟩ := rng_open w
  refine ⟨C, F, fp, τ, ps, τ1, hio, R0, e1, fun F1 fp1 H1 vs R1 s1 w1 => ?_⟩
  obtain ⟨F2, os, ds, sm, wv, e2, q2⟩ := q F1 fp1 H1 vs R1 s1 w1
  unfold zip2S at e2
  split at e2
  · obtain ⟨v, u, rfl, w, w2⟩ := wv.two
    cases e2
    have w := w.fz
    have w2 := w2.fz
    rw [Rep] at w w2
    obtain ⟨x, ws, rfl, l, rr⟩ := w
    obtain ⟨y, us, rfl, l2, rr2⟩ := w2
    exact ⟨x, y, ws, us, rfl, .inl ⟨(l.mono sm).sql, (l2.mono sm).sql, q2 _ (turns_zip l.sql l2.sql rr rr2)⟩⟩
  · obtain ⟨v, u, rfl, w, w2⟩ := wv.two
    cases e2
    have w := w.fz
    have w2 := w2.fz
    rw [Rep] at w w2
    obtain ⟨x, ws, rfl, l, rr⟩ := w
    obtain ⟨y, us, rfl, l2, rr2⟩ := w2
    exact ⟨x, y, ws, us, rfl, .inr ⟨sqt_mono sm l, sqt_mono sm l2, q2 _ (turns_zipT l l2 rr rr2)⟩⟩
  · cases e2
end
end Pf

/-! Pf7: comprehensions. -/
namespace Pf
open PySem PySem.Spec PyProof.Rows L2

def Fx.pendTo (C : Fx) (l : List (OV × V × List Addr)) : Fx := { C with pend := l }
section
variable {K : PySem.W.Frag} {C : Fx} {F : Hp} {fp : Nat → List Addr} {τ : T} {σ : L2.St} {H : Hp} {r : OV} {v : V} {as : List Addr} {l : List (OV × V × List Addr)}
theorem Rel.repend {l' : List (OV × V × List Addr)} (R : Rel K (C.pendTo l) F fp τ σ H) (h : ∀ t ∈ l', Own K F H t.1 t.2.1 t.2.2 ∧ ∀ a ∈ t.2.2, F a = none ∧ H a ≠ none ∧ ∀ i, a ∉ fp i) : Rel K (C.pendTo l') F fp τ σ H :=
  ⟨R.sub, R.old, R.frame, R.new, R.len, R.slot, R.apart, R.own, R.lay, R.stay, R.lent, R.ioc, h⟩
theorem Rel.addPend (R : Rel K (C.pendTo l) F fp τ σ H) (t : Tmp K (C.pendTo l) F fp H r v as) : Rel K (C.pendTo ((r, v, as) :: l)) F fp τ σ H :=
  R.repend fun p hp => by
    rcases List.mem_cons.mp hp with rfl | hp
    · refine ⟨t.own, fun a ha => ⟨(t.new a ha).1, ?_, t.apart a ha⟩⟩
      obtain ⟨vs, e⟩ := t.own.there a ha
      rw [e]; simp
    · exact R.pend p hp
theorem Rel.dropPend {t : OV × V × List Addr} (R : Rel K (C.pendTo (t :: l)) F fp τ σ H) : Rel K (C.pendTo l) F fp τ σ H :=
  R.repend fun p hp => R.pend p (List.mem_cons_of_mem _ hp)
theorem Rel.unPend (R : Rel K (C.pendTo ((r, v, as) :: l)) F fp τ σ H) (hn : ∀ a ∈ as, C.H0 a = none) (hd : ∀ a ∈ as, ∀ t ∈ l, a ∉ t.2.2) : Tmp K (C.pendTo l) F fp H r v as := by
  obtain ⟨w, q⟩ := R.pend (r, v, as) List.mem_cons_self
  exact ⟨w, fun a ha => (q a ha).2.2, fun a ha => ⟨(q a ha).1, hn a ha⟩, hd⟩
theorem Owns.snoc {os : List OV} {vs : List V} {bs : List Addr} : ∀ {os : List OV} {vs : List V} {bs : List Addr}, Owns K F H os vs bs → Own K F H r v as → (∀ a ∈ bs, a ∉ as) → Owns K F H (os ++ [r]) (vs ++ [v]) (bs ++ as)
  | [], vs, bs, h, w, n => by
    rw [Owns] at h
    obtain ⟨rfl, rfl⟩ := h
    rw [List.nil_append, List.nil_append, List.nil_append, Owns]
    refine ⟨v, [], as, [], rfl, by simp, w, ?_, fun _ _ z => (nomatch z)⟩
    rw [Owns]; exact ⟨rfl, rfl⟩
  | x :: xs, vs, bs, h, w, n => by
    rw [Owns] at h
    obtain ⟨u, us, b1, b2, rfl, rfl, q, qs, m⟩ := h
    have ih := Owns.snoc (os := xs) (vs := us) (bs := b2) qs w fun a ha => n a (List.mem_append_right _ ha)
    rw [List.cons_append, List.cons_append, Owns]
    refine ⟨u, us ++ [v], b1, b2 ++ as, rfl, by rw [List.append_assoc], q, ih, fun a ha z => ?_⟩
    rcases List.mem_append.mp z with z | z
    · exact m a ha z
    · exact n a (List.mem_append_left _ ha) z
/-- the list that waits takes one more item -/
theorem Rel.pendPush {xs : List OV} {A : Addr} {bs : List Addr} (R : Rel K (C.pendTo ((.ls xs, .ref A, A :: bs) :: l)) F fp τ σ H) (t : Tmp K (C.pendTo ((.ls xs, .ref A, A :: bs) :: l)) F fp H r v as)
    (hA : ∀ p ∈ l, A ∉ p.2.2) (hn : C.H0 A = none) : ∃ vs, H A = some (.lst vs) ∧ vs.length = xs.length ∧ Rel K (C.pendTo ((.ls (xs ++ [r]), .ref A, A :: (bs ++ as)) :: l)) F fp τ σ (upd H A (.lst (vs ++ [v]))) := by
  obtain ⟨w, q⟩ := R.pend (.ls xs, .ref A, A :: bs) List.mem_cons_self
  have w' := w
  rw [Own] at w'
  obtain ⟨A', vs, bs', e1, e2, hH, nA, rs⟩ := w'
  cases e1
  cases e2
  have qA := q A List.mem_cons_self
  have tA : A ∉ as := fun z => t.free A z _ List.mem_cons_self List.mem_cons_self
  have kp : ∀ b u, b ≠ A → H b = some u → upd H A (.lst (vs ++ [v])) b = some u := fun b u hb h => by rw [upd_ne hb]; exact h
  have bsA : ∀ b ∈ bs, b ≠ A := fun b hb z => nA (by rw [← z]; exact hb)
  refine ⟨vs, hH, rs.length.symm, same_updF R.sub qA.1, R.old, fun b o h1 h2 => ?_, R.new, R.len, fun j o e => ?_, R.apart, R.own, fun j b hb => ?_, fun b hb => ?_, R.lent, R.ioc, fun p hp => ?_⟩
  · refine kp b o (fun z => ?_) (R.frame b o h1 h2)
    subst z
    have h1 : C.H0 b = some o := h1
    rw [hn] at h1; cases h1
  · obtain ⟨u, e3, g⟩ := R.slot j o e
    exact ⟨u, e3, g.keep (Same.refl _) fun b hb x hx => kp b x (fun z => qA.2.2 j (by rw [← z]; exact hb)) hx⟩
  · by_cases hb' : b = A
    · rw [hb', upd_same]; simp
    · rw [upd_ne hb']; exact R.lay j b hb
  · by_cases hb' : b = A
    · subst hb'; rw [upd_same] at hb; cases hb
    · rw [upd_ne hb'] at hb; exact R.stay b hb
  · rcases List.mem_cons.mp hp with rfl | hp
    · have asA : ∀ b ∈ as, b ≠ A := fun b hb z => tA (by rw [← z]; exact hb)
      have w2 : Owns K F H (xs ++ [r]) (vs ++ [v]) (bs ++ as) := Owns.snoc (os := xs) (vs := vs) (bs := bs) rs t.own fun a ha z => t.free a z _ List.mem_cons_self (List.mem_cons_of_mem _ ha)
      have hmem : ∀ b ∈ bs ++ as, b ≠ A := fun b hb => (List.mem_append.mp hb).elim (bsA b) (asA b)
      refine ⟨?_, fun b hb => ?_⟩
      · rw [Own]
        exact ⟨A, vs ++ [v], bs ++ as, rfl, rfl, upd_same, fun z => hmem A z rfl, w2.keep (Same.refl _) fun b hb u hu => kp b u (hmem b hb) hu⟩
      · rcases List.mem_cons.mp hb with z | hb
        · subst z
          exact ⟨qA.1, by rw [upd_same]; simp, qA.2.2⟩
        · rw [upd_ne (hmem b hb)]
          rcases List.mem_append.mp hb with hb | hb
          · exact q b (List.mem_cons_of_mem _ hb)
          · obtain ⟨ws, e⟩ := t.own.there b hb
            exact ⟨(t.new b hb).1, by rw [e]; simp, t.apart b hb⟩
    · obtain ⟨g, m⟩ := R.pend p (List.mem_cons_of_mem _ hp)
      have hpA : ∀ b ∈ p.2.2, b ≠ A := fun b hb z => hA p hp (by rw [← z]; exact hb)
      exact ⟨g.keep (Same.refl _) fun b hb u hu => kp b u (hpA b hb) hu, fun b hb => ⟨(m b hb).1, by rw [upd_ne (hpA b hb)]; exact (m b hb).2.1, (m b hb).2.2⟩⟩
end

/-! ### the block's own slots -/
def wipeT (τ : T) : List Nat → T
  | [] => τ
  | v :: vs => (wipeT τ vs).set v none
theorem wipeT_len (τ : T) : ∀ vs, (wipeT τ vs).length = τ.length
  | [] => rfl
  | v :: vs => by unfold wipeT; rw [List.length_set, wipeT_len τ vs]
theorem wipeT_at {τ : T} {i : Nat} : ∀ {vs : List Nat}, slotAt (wipeT τ vs) i = if i ∈ vs then none else slotAt τ i
  | [] => by simp [wipeT]
  | v :: vs => by
    unfold wipeT
    by_cases h : v = i
    · subst h
      by_cases hl : v < (wipeT τ vs).length
      · rw [slotAt_set_same hl]; simp
      · have : slotAt ((wipeT τ vs).set v none) v = none := by
          unfold slotAt
          rw [List.getElem?_eq_none (by rw [List.length_set]; omega)]; rfl
        rw [this]; simp
    · rw [slotAt_set_ne h, wipeT_at]
      by_cases hi : i ∈ vs
      · rw [if_pos hi, if_pos (List.mem_cons_of_mem _ hi)]
      · rw [if_neg hi, if_neg (by simp [hi]; exact fun z => h z.symm)]
/-- the slots vs as they were in τ0 -/
def backT (τ τ0 : T) : List Nat → T
  | [] => τ
  | v :: vs => (backT τ τ0 vs).set v (slotAt τ0 v)
theorem backT_len (τ τ0 : T) : ∀ vs, (backT τ τ0 vs).length = τ.length
  | [] => rfl
  | v :: vs => by unfold backT; rw [List.length_set, backT_len τ τ0 vs]
theorem backT_at {τ τ0 : T} {i : Nat} (hl : τ.length = τ0.length) : ∀ {vs : List Nat}, slotAt (backT τ τ0 vs) i = if i ∈ vs then slotAt τ0 i else slotAt τ i
  | [] => by simp [backT]
  | v :: vs => by
    unfold backT
    by_cases h : v = i
    · subst h
      by_cases hv : v < (backT τ τ0 vs).length
      · rw [slotAt_set_same hv]; simp
      · have h1 : slotAt ((backT τ τ0 vs).set v (slotAt τ0 v)) v = none := by
          unfold slotAt
          rw [List.getElem?_eq_none (by rw [List.length_set]; omega)]; rfl
        have h2 : slotAt τ0 v = none := by
          unfold slotAt
          rw [List.getElem?_eq_none (by rw [← hl, ← backT_len τ τ0 vs]; omega)]; rfl
        rw [h1]; simp [h2]
    · rw [slotAt_set_ne h, backT_at hl]
      by_cases hi : i ∈ vs
      · rw [if_pos hi, if_pos (List.mem_cons_of_mem _ hi)]
      · rw [if_neg hi, if_neg (by simp [hi]; exact fun z => h z.symm)]
def noOwn (τ : T) (i : Nat) : Bool := match slotAt τ i with
  | some (.ls _) => false
  | _ => true
theorem wipe_at {σ : L2.St} {i : Nat} : ∀ {vs : List Nat}, i ∉ vs → (wipe σ vs)[i]? = σ[i]?
  | [], _ => rfl
  | v :: vs, h => by
    unfold wipe
    rw [List.getElem?_set_ne fun z => h (by simp [z]), wipe_at fun z => h (List.mem_cons_of_mem _ z)]
theorem wipe_in {σ : L2.St} {i : Nat} : ∀ {vs : List Nat}, i ∈ vs → i < σ.length → (wipe σ vs)[i]? = some none
  | v :: vs, h, hl => by
    unfold wipe
    by_cases e : v = i
    · subst e
      exact List.getElem?_set_self (by rw [wipe_length]; exact hl)
    · rw [List.getElem?_set_ne e]
      rcases List.mem_cons.mp h with z | z
      · exact absurd z.symm e
      · exact wipe_in z hl
theorem wipe_eq {σ σ' : L2.St} {vs : List Nat} (hl : σ'.length = σ.length) (h : ∀ j, j ∉ vs → σ'[j]? = σ[j]?) : wipe σ' vs = wipe σ vs := by
  apply List.ext_getElem?
  intro i
  by_cases hi : i ∈ vs
  · by_cases hs : i < σ.length
    · rw [wipe_in hi hs, wipe_in hi (by rw [hl]; exact hs)]
    · rw [List.getElem?_eq_none (by rw [wipe_length]; omega), List.getElem?_eq_none (by rw [wipe_length]; omega)]
  · rw [wipe_at hi, wipe_at hi, h i hi]
section
variable {K : PySem.W.Frag} {C : Fx} {F : Hp} {fp : Nat → List Addr} {τ : T} {σ : L2.St} {H : Hp}
theorem Rel.wipe {vs : List Nat} (R : Rel K C F fp τ σ H) (hv : ∀ i ∈ vs, i ∉ C.ios.map (·.1)) : Rel K C F fp (wipeT τ vs) (L2.wipe σ vs) H := by
  refine ⟨R.sub, R.old, R.frame, R.new, by rw [wipeT_len, wipe_length]; exact R.len, fun i o e => ?_, R.apart, R.own, R.lay, R.stay, fun p hp => ?_, R.ioc, R.pend⟩
  · rw [wipeT_at] at e
    by_cases hi : i ∈ vs
    · rw [if_pos hi] at e; cases e
    · rw [if_neg hi] at e
      rw [wipe_at hi]
      exact R.slot i o e
  · rw [wipe_at fun z => hv _ z (List.mem_map_of_mem hp)]
    exact R.lent p hp
theorem Rel.unwipe {vs : List Nat} {τ0 : T} {F0 : Hp} {fp0 : Nat → List Addr} {H0 : Hp} {C0 : Fx} (R : Rel K C F fp τ (L2.wipe σ vs) H) (R0 : Rel K C0 F0 fp0 τ0 σ H0) (s : Same F0 F) (hn : vs.all (noOwn τ0) = true) (hv : ∀ i ∈ vs, i ∉ C.ios.map (·.1)) :
    ∃ fp', Rel K C F fp' (backT τ τ0 vs) σ H ∧ ∀ i a, a ∈ fp' i → a ∈ fp i := by
  have hl : τ.length = τ0.length := by rw [R.len, wipe_length, R0.len]
  have sub : ∀ i a, a ∈ (if i ∈ vs then [] else fp i) → i ∉ vs ∧ a ∈ fp i := fun i a h => by
    by_cases hi : i ∈ vs
    · rw [if_pos hi] at h; exact absurd h (by simp)
    · rw [if_neg hi] at h; exact ⟨hi, h⟩
  refine ⟨fun i => if i ∈ vs then [] else fp i, ⟨R.sub, R.old, R.frame, R.new, by rw [backT_len, hl]; exact R0.len, fun i o e => ?_, fun i j a h1 h2 => R.apart i j a (sub i a h1).2 (sub j a h2).2, fun i a h => R.own i a (sub i a h).2, fun i a h => R.lay i a (sub i a h).2, R.stay, fun p hp => ?_, R.ioc, fun p hp => ?_⟩, fun i a h => (sub i a h).2⟩
  · rw [backT_at hl] at e
    by_cases hi : i ∈ vs
    · rw [if_pos hi] at e
      obtain ⟨v, e1, w⟩ := R0.slot i o e
      have ho := List.all_eq_true.mp hn i hi
      unfold noOwn at ho
      rw [e] at ho
      cases o with
      | ls xs => exact absurd ho (by simp)
      | fz d =>
        rw [Own.fz_iff] at w
        exact ⟨v, e1, by rw [if_pos hi]; exact Own.of_rep (w.2.mono s)⟩
    · rw [if_neg hi] at e
      obtain ⟨v, e1, w⟩ := R.slot i o e
      rw [wipe_at hi] at e1
      exact ⟨v, e1, by rw [if_neg hi]; exact w⟩
  · have h1 := R.lent p hp
    rw [wipe_at fun z => hv _ z (List.mem_map_of_mem hp)] at h1
    exact h1
  · obtain ⟨g, m⟩ := R.pend p hp
    exact ⟨g, fun a ha => ⟨(m a ha).1, (m a ha).2.1, fun i z => (m a ha).2.2 i (sub i a z).2⟩⟩
end

/-! ### [e for t in it if c] -/
/-- one clause's turns -/
def compL (io vs : List Nat) (own : Bool) (g : FG) (c : T → Res (Bool × T)) (f : FP) : List D → List OV → T → Res (List OV × T)
  | [], acc, τ => .ok (acc, τ)
  | d :: ds, acc, τ => (g d (wipeT τ vs)).bind fun τ1 => (c τ1).bind fun (b, τ2) => if b = true then (f τ2).bind fun (p, τ3) => (take io own p τ3).bind fun (r, τ4) =>
      if acc.length < sizeLine then compL io vs own g c f ds (acc ++ [r]) τ4 else .bad
    else compL io vs own g c f ds acc τ2
def compF (io vs : List Nat) (own : Bool) (h : FI) (g : FG) (c : T → Res (Bool × T)) (f : FP) : FP := fun τ => (h τ).bind fun (ds, τ1) => if vs.all (noOwn τ1) && vs.all (fun i => decide (i ∉ io)) then
    (compL io vs own g c f ds [] τ1).bind fun (acc, τ2) => .ok (.val (.ls acc), backT (wipeT τ2 vs) τ1 vs)
  else .bad
def XTs (X : Cx) (io : List Nat) (es : List Expr) (c : T → Res (Bool × T)) : Prop := PTs X es (rdT X.K io c)
def yesT : T → Res (Bool × T) := fun τ => .ok (true, τ)
section
variable {X : Cx} {io : List Nat} {pos : Pos} {f c : FP}
theorem pts_weak {es : List Expr} {t t' : TT} (h : PTs X es t) (w : ∀ σ H Q, t' σ H Q → t σ H Q) : PTs X es t' := ⟨fun pins s σ H Q I q => h.run pins s σ H Q I (w σ H Q q)⟩
theorem xts_nil : XTs X io [] yesT := pts_weak pts_nil fun σ H Q ⟨C, F, fp, τ, b, τ', hio, R, e, q⟩ => by
  cases e
  exact q F fp H R (Same.refl _)
theorem xts_one {e : Expr} {c : T → Res (Bool × T)} (h : XT X io e c) : XTs X io [e] c := pts_one h
theorem comp_open {h : FI} {g : FG} {c : T → Res (Bool × T)} {own : Bool} {vs vt : List Nat} (ht : ∀ i ∈ vt, i ∈ vs) {σ : L2.St} {H : Hp} {Q : VK} (hh : rdP X.K io (compF io vs own h g c f) σ H Q) :
    tLc (rdI X.K io h) (rdG X.K io vt g) (rdT X.K io c) (rdP X.K io f) vs σ H Q := by
  obtain ⟨C, F, fp, τ, p, τ', hio, R, e, q⟩ := hh
  obtain ⟨⟨ds, τ1⟩, e1, e⟩ := Res.bind_ok e
  dsimp only at e
  by_cases hz : (vs.all (noOwn τ1) && vs.all (fun i => decide (i ∉ io))) = true
  · rw [if_pos hz] at e
    rw [Bool.and_eq_true] at hz
    have hvio : ∀ i ∈ vs, i ∉ C.ios.map (·.1) := fun i hi => by rw [hio]; exact of_decide_eq_true (List.all_eq_true.mp hz.2 i hi)
    obtain ⟨⟨accF, τ2⟩, e2, e⟩ := Res.bind_ok e
    cases e
    refine ⟨C, F, fp, τ, ds, τ1, hio, R, e1, fun F1 fp1 H1 J R1 s1 tn A nA => ?_⟩
    have hA0 : C.H0 A = none := R1.stay A nA
    have gA := Grow.lst (K := X.K) (ds := []) (vs := []) R1.sub nA Reps.nil
    obtain ⟨RA, as, tA⟩ := gA.rel R1
    have ea : as = [A] := by
      have w := tA.own
      rw [List.map_nil, Own] at w
      obtain ⟨a', vs', bs', z1, z2, z3, z4, z5⟩ := w
      cases z1
      rw [Owns] at z5
      rw [z2, z5.2]
    subst ea
    have RP := (Rel.addPend (C := C) (l := C.pend) RA tA).wipe hvio
    refine ⟨fun i m H => m = ds.length - i ∧ i ≤ ds.length ∧ ∃ acc bs F2 fp2 τ', Rel X.K (C.pendTo ((.ls acc, .ref A, A :: bs) :: C.pend)) F2 fp2 (wipeT τ' vs) (L2.wipe σ vs) H ∧ Same F1 F2 ∧ (∀ a ∈ A :: bs, C.H0 a = none ∧ ∀ t ∈ C.pend, a ∉ t.2.2) ∧ compL io vs own g c f (ds.drop i) acc τ' = .ok (accF, τ2),
      ⟨ds.length, rfl, Nat.zero_le _, [], [], F1, fp1, τ1, RP, Same.refl _, fun a ha => ⟨(tA.new a ha).2, fun t ht => tA.free a ha t ht⟩, e2⟩, ?_⟩
    rintro i m H2 ⟨rfl, hi2, acc, bs, F2, fp2, τ', R2, s2, hb, e3⟩
    by_cases hlt : i < ds.length
    · rw [drop_at hlt, compL] at e3
      obtain ⟨τ3, e4, e5⟩ := Res.bind_ok e3
      obtain ⟨⟨b, τ4⟩, e6, e7⟩ := Res.bind_ok e5
      dsimp only at e7
      refine .inr ⟨tn.go i H2 hlt (s2.trans R2.sub), fun H => ∃ acc bs F2 fp2 τ', Rel X.K (C.pendTo ((.ls acc, .ref A, A :: bs) :: C.pend)) F2 fp2 (wipeT τ' vs) (L2.wipe σ vs) H ∧ Same F1 F2 ∧ (∀ a ∈ A :: bs, C.H0 a = none ∧ ∀ t ∈ C.pend, a ∉ t.2.2) ∧ compL io vs own g c f (ds.drop (i + 1)) acc τ' = .ok (accF, τ2),
        fun H' w => ⟨ds.length - (i + 1), by omega, rfl, hlt, w⟩, fun x H3 y => ?_⟩
      obtain ⟨F3, gr⟩ := tn.yld i H2 x H3 ds[i] (List.getElem?_eq_getElem hlt) (s2.trans R2.sub) y F2 s2 R2.sub
      obtain ⟨R3, as, tm⟩ := gr.rel R2
      have rx := tm.own
      rw [Own.fz_iff] at rx
      refine ⟨C.pendTo ((.ls acc, .ref A, A :: bs) :: C.pend), F3, fp2, wipeT τ' vs, ds[i], τ3, hio, R3, rx.2, e4, fun F4 fp4 σ4 R4 s4 n4 => ?_⟩
      have hw : L2.wipe σ4 vs = L2.wipe σ vs := wipe_eq (n4.1.trans (wipe_length σ vs)) fun j hj => (n4.2 j fun z => hj (ht j z)).trans (wipe_at hj)
      refine ⟨hw, C.pendTo ((.ls acc, .ref A, A :: bs) :: C.pend), F4, fp4, τ3, b, τ4, hio, R4, e6, fun F5 fp5 H5 R5 s5 => ?_⟩
      have s15 : Same F1 F5 := ((s2.trans gr.frozen).trans s4).trans s5
      cases b with
      | false =>
        simp only [Bool.false_eq_true, if_false] at e7 ⊢
        have R6 := R5.wipe hvio
        rw [hw] at R6
        exact ⟨acc, bs, F5, fp5, τ4, R6, s15, hb, e7⟩
      | true =>
        simp only [if_true] at e7 ⊢
        obtain ⟨⟨p, τ5⟩, e8, e9⟩ := Res.bind_ok e7
        obtain ⟨⟨r, τ6⟩, e10, e11⟩ := Res.bind_ok e9
        dsimp only at e11
        by_cases hz2 : acc.length < sizeLine
        · rw [if_pos hz2] at e11
          refine ⟨C.pendTo ((.ls acc, .ref A, A :: bs) :: C.pend), F5, fp5, τ4, p, τ5, hio, R5, e8, fun F6 fp6 H6 v R6 s6 w6 => ?_⟩
          obtain ⟨F7, fp7, as7, R7, s7, t7⟩ := Rel.take (C := C.pendTo ((.ls acc, .ref A, A :: bs) :: C.pend)) hio R6 w6 e10
          obtain ⟨ws, hH, hl, R8⟩ := Rel.pendPush R7 t7 (fun p hp => (hb A List.mem_cons_self).2 p hp) hA0
          have R9 := R8.wipe hvio
          rw [hw] at R9
          refine ⟨ws, hH, by rw [hl]; exact hz2, acc ++ [r], bs ++ as7, F7, fp7, τ6, R9, (s15.trans s6).trans s7, fun a ha => ?_, e11⟩
          rcases List.mem_cons.mp ha with z | ha
          · exact hb a (by rw [z]; exact List.mem_cons_self)
          · rcases List.mem_append.mp ha with ha | ha
            · exact hb a (List.mem_cons_of_mem _ ha)
            · exact ⟨(t7.new a ha).2, fun t ht2 => t7.free a ha t (List.mem_cons_of_mem _ ht2)⟩
        · rw [if_neg hz2] at e11; cases e11
    · have ei : i = ds.length := by omega
      subst ei
      rw [List.drop_length] at e3
      cases e3
      obtain ⟨fp3, R3, hfp⟩ := R2.unwipe R1 s2 hz.1 hvio
      have tt := Rel.unPend R3 (fun a ha => (hb a ha).1) fun a ha t ht => (hb a ha).2 t ht
      exact .inl ⟨tn.stop H2 (s2.trans R2.sub), q F2 fp3 H2 _ R3.dropPend (s1.trans s2) ⟨_, tt⟩⟩
  · rw [if_neg hz] at e; cases e
end
end Pf

/-! Pf8: a def's body as a function of its arguments' values; the call. -/
namespace Pf
open PySem PySem.Spec PyProof.Rows L2

/-! ### arguments: data, and one that may be lent -/
def ArgsR (K : PySem.W.Frag) (F H : Hp) (as : List Addr) : Option Nat → List OV → List V → Prop
  | none, os, vs => ∃ ds, os = ds.map OV.fz ∧ Reps K F ds vs ∧ as = []
  | some 0, os, vs => ∃ xs ds v ws, os = .ls xs :: ds.map OV.fz ∧ vs = v :: ws ∧ Own K F H (.ls xs) v as ∧ Reps K F ds ws
  | some (j + 1), os, vs => ∃ d os' v ws, os = .fz d :: os' ∧ vs = v :: ws ∧ Rep K F d v ∧ ArgsR K F H as (some j) os' ws
section
variable {K : PySem.W.Frag} {F H : Hp} {as : List Addr}
theorem reps_slot : ∀ {ds : List D} {vs : List V} {i : Nat} {o : OV}, Reps K F ds vs → (ds.map OV.fz)[i]? = some o → ∃ v, vs[i]? = some v ∧ Own K F H o v [] := fun {ds vs i o} r e => by
  rw [List.getElem?_map] at e
  cases z : ds[i]? with
  | none => rw [z] at e; cases e
  | some d =>
    rw [z] at e
    cases e
    obtain ⟨v, e2, q⟩ := r.get z
    exact ⟨v, e2, Own.of_rep q⟩
theorem ArgsR.slot : ∀ {l : Option Nat} {os : List OV} {vs : List V} {i : Nat} {o : OV}, ArgsR K F H as l os vs → os[i]? = some o → ∃ v, vs[i]? = some v ∧ Own K F H o v (if l = some i then as else [])
  | none, os, vs, i, o, h, e => by
    rw [ArgsR] at h
    obtain ⟨ds, rfl, r, rfl⟩ := h
    obtain ⟨v, e2, q⟩ := reps_slot (H := H) r e
    exact ⟨v, e2, by rw [if_neg (by simp)]; exact q⟩
  | some 0, os, vs, i, o, h, e => by
    rw [ArgsR] at h
    obtain ⟨xs, ds, v, ws, rfl, rfl, q, r⟩ := h
    cases i with
    | zero => cases e; exact ⟨v, rfl, by rw [if_pos rfl]; exact q⟩
    | succ i =>
      obtain ⟨u, e2, q2⟩ := reps_slot (H := H) (i := i) r (by simpa using e)
      exact ⟨u, by simpa using e2, by rw [if_neg (by simp)]; exact q2⟩
  | some (j + 1), os, vs, i, o, h, e => by
    rw [ArgsR] at h
    obtain ⟨d, os', v, ws, rfl, rfl, q, r⟩ := h
    cases i with
    | zero => cases e; exact ⟨v, rfl, by rw [if_neg (by simp)]; exact Own.of_rep q⟩
    | succ i =>
      obtain ⟨u, e2, q2⟩ := ArgsR.slot (i := i) r (by simpa using e)
      refine ⟨u, by simpa using e2, ?_⟩
      by_cases hj : j = i
      · subst hj; rw [if_pos rfl] at q2 ⊢; exact q2
      · rw [if_neg (by simp [hj])] at q2 ⊢; exact q2
theorem ArgsR.length : ∀ {l : Option Nat} {os : List OV} {vs : List V}, ArgsR K F H as l os vs → os.length = vs.length
  | none, os, vs, h => by
    rw [ArgsR] at h
    obtain ⟨ds, rfl, r, rfl⟩ := h
    rw [List.length_map, r.length]
  | some 0, os, vs, h => by
    rw [ArgsR] at h
    obtain ⟨xs, ds, v, ws, rfl, rfl, q, r⟩ := h
    rw [List.length_cons, List.length_cons, List.length_map, r.length]
  | some (j + 1), os, vs, h => by
    rw [ArgsR] at h
    obtain ⟨d, os', v, ws, rfl, rfl, q, r⟩ := h
    rw [List.length_cons, List.length_cons, ArgsR.length r]
theorem ArgsR.none_nil : ∀ {os : List OV} {vs : List V}, ArgsR K F H as none os vs → as = [] := fun h => by
  rw [ArgsR] at h
  obtain ⟨ds, rfl, r, rfl⟩ := h
  rfl
theorem ArgsR.lent : ∀ {j : Nat} {os : List OV} {vs : List V}, ArgsR K F H as (some j) os vs → ∃ o v, os[j]? = some o ∧ vs[j]? = some v ∧ Own K F H o v as
  | 0, os, vs, h => by
    rw [ArgsR] at h
    obtain ⟨xs, ds, v, ws, rfl, rfl, q, r⟩ := h
    exact ⟨_, v, rfl, rfl, q⟩
  | j + 1, os, vs, h => by
    rw [ArgsR] at h
    obtain ⟨d, os', v, ws, rfl, rfl, q, r⟩ := h
    obtain ⟨o, u, e1, e2, q2⟩ := ArgsR.lent r
    exact ⟨o, u, by simpa using e1, by simpa using e2, q2⟩
theorem ArgsR.there : ∀ {l : Option Nat} {os : List OV} {vs : List V}, ArgsR K F H as l os vs → ∀ a ∈ as, H a ≠ none
  | none, os, vs, h, a, ha => by rw [h.none_nil] at ha; exact absurd ha (by simp)
  | some j, os, vs, h, a, ha => by
    obtain ⟨o, v, _, _, q⟩ := h.lent
    obtain ⟨us, e⟩ := q.there a ha
    rw [e]; simp
end

/-! ### a def's promise -/
/-- what a def of one lent parameter (or none) has changed behind it: bs the answer's own addresses, cs the lent list's -/
structure Post (K : PySem.W.Frag) (l : Option Nat) (F H : Hp) (as : List Addr) (vs : List V) (r o : OV) (F' H' : Hp) (v : V) (bs cs : List Addr) : Prop where
  sub : Same F' H'
  old : Same F F'
  frame : ∀ a u, H a = some u → a ∉ as → H' a = some u
  new : ∀ a u, F' a = some u → F a ≠ none ∨ H a = none
  stay : ∀ a, H' a = none → H a = none
  ans : Own K F' H' r v bs
  ansn : ∀ a ∈ bs, F' a = none ∧ H a = none ∧ a ∉ cs
  lent : ∀ j w, l = some j → vs[j]? = some w → Own K F' H' o w cs
  lentn : ∀ a ∈ cs, F' a = none ∧ (H a = none ∨ a ∈ as)
  none_ : l = none → cs = []
abbrev FV := List OV → Res (OV × OV)
def spP (K : PySem.W.Frag) (n : Nat) (l : Option Nat) (f : FV) : Sp := fun vs H Q _ => ∃ F os as r o, Same F H ∧ (∀ a ∈ as, F a = none) ∧ ArgsR K F H as l os vs ∧ os.length = n ∧ f os = .ok (r, o) ∧
  ∀ F' H' v bs cs, Post K l F H as vs r o F' H' v bs cs → Q v H'
def lentAt (l : Option Nat) (τ : T) : Res OV := match l with
  | none => .ok (.fz .non)
  | some j => Res.of (slotAt τ j)
/-- a body as a function: m the slots, n of them the parameters -/
def runF (m n : Nat) (l : Option Nat) (g : FS) : FV := fun os => if os.length = n then (g (os.map some ++ List.replicate (m - n) none)).bind fun (fl, τ) => match fl with
    | .rt r => (lentAt l τ).bind fun o => .ok (r, o)
    | .nx => (lentAt l τ).bind fun o => .ok (.fz .non, o)
    | _ => .bad
  else .bad
def fxOf (F H : Hp) (l : Option Nat) (as : List Addr) (vs : List V) : Fx :=
  { F0 := F, H0 := H, io := fun a => if a ∈ as then l else none, ios := match l with | none => [] | some j => [(j, vs.getD j .non)], pend := [] }
theorem fxOf_ios {F H : Hp} {l : Option Nat} {as : List Addr} {vs : List V} : (fxOf F H l as vs).ios.map (·.1) = l.toList := by
  cases l <;> rfl
theorem slotAt_start {os : List OV} {k i : Nat} {o : OV} (h : slotAt (os.map some ++ List.replicate k none) i = some o) : os[i]? = some o := by
  unfold slotAt at h
  by_cases hi : i < os.length
  · rw [List.getElem?_append_left (by simpa using hi), List.getElem?_map] at h
    cases e : os[i]? with
    | none => rw [e] at h; cases h
    | some u => rw [e] at h; simpa using h
  · rw [List.getElem?_append_right (by simpa using hi), List.getElem?_replicate] at h
    split at h <;> cases h
theorem start_get {N : List Str} {vs : List V} {i : Nat} {v : V} (h : vs[i]? = some v) : (L2.start N vs)[i]? = some (some v) := by
  have hi : i < vs.length := (List.getElem?_eq_some_iff.mp h).1
  unfold L2.start
  rw [List.getElem?_append_left (by simpa using hi), List.getElem?_map, h]
  rfl
section
variable {K : PySem.W.Frag} {F H : Hp} {as : List Addr} {l : Option Nat} {os : List OV} {vs : List V} {N : List Str} {n : Nat}
theorem rel_start (s : Same F H) (hn : ∀ a ∈ as, F a = none) (h : ArgsR K F H as l os vs) (hl : os.length = n) : Rel K (fxOf F H l as vs) F (fun i => if l = some i then as else []) (os.map some ++ List.replicate (N.length - n) none) (L2.start N vs) H := by
  have inas : ∀ i a, a ∈ (if l = some i then as else []) → l = some i ∧ a ∈ as := fun i a z => by
    by_cases e : l = some i
    · rw [if_pos e] at z; exact ⟨e, z⟩
    · rw [if_neg e] at z; exact absurd z (by simp)
  refine ⟨s, Same.refl _, fun a o e _ => e, fun a o e => .inl (by show F a ≠ none; rw [e]; simp), ?_, fun i o e => ?_, fun i j a h1 h2 => ?_, fun i a z => ?_, fun i a z => h.there a (inas i a z).2, fun a e => e, fun p hp => ?_, fun a i e => ?_, fun t ht => absurd ht (by simp [fxOf])⟩
  · unfold L2.start
    rw [List.length_append, List.length_append, List.length_map, List.length_map, List.length_replicate, List.length_replicate, ← h.length, hl]
  · obtain ⟨v, e2, q⟩ := h.slot (slotAt_start e)
    exact ⟨v, start_get e2, q⟩
  · have e1 := (inas i a h1).1
    rw [(inas j a h2).1] at e1
    cases e1; rfl
  · obtain ⟨e1, e2⟩ := inas i a z
    exact ⟨hn a e2, .inr (by show (if a ∈ as then l else none) = some i; rw [if_pos e2]; exact e1)⟩
  · cases l with
    | none => exact absurd hp (by simp [fxOf])
    | some j =>
      obtain ⟨o, v, _, e2, _⟩ := h.lent
      have : p = (j, vs.getD j .non) := by simpa [fxOf] using hp
      subst this
      show (L2.start N vs)[j]? = some (some (vs.getD j .non))
      rw [List.getD_eq_getElem?_getD, e2]
      exact start_get e2
  · have e : (if a ∈ as then l else none) = some i := e
    split at e
    · subst e; simp [fxOf]
    · cases e
theorem rel_end {F' H' : Hp} {fp' : Nat → List Addr} {τ' : T} {σ' : L2.St} {r o : OV} {v : V} {bs : List Addr} (h : ArgsR K F H as l os vs) (R : Rel K (fxOf F H l as vs) F' fp' τ' σ' H') (t : Tmp K (fxOf F H l as vs) F' fp' H' r v bs) (e : lentAt l τ' = .ok o) :
    Post K l F H as vs r o F' H' v bs (match l with | none => [] | some j => fp' j) := by
  refine ⟨R.sub, R.old, fun a u e1 e2 => R.frame a u e1 (if_neg e2), R.new, R.stay, t.own, fun a ha => ⟨(t.new a ha).1, (t.new a ha).2, ?_⟩, fun j w ej ew => ?_, fun a ha => ?_, fun z => by subst z; rfl⟩
  · cases l with
    | none => simp
    | some j => exact t.apart a ha j
  · subst ej
    obtain ⟨w', e1, q⟩ := R.slot j o (Res.of_ok e)
    have e2 := R.lent (j, vs.getD j .non) (by simp [fxOf])
    have e3 : σ'[j]? = some (some w) := by
      have z : vs.getD j .non = w := by rw [List.getD_eq_getElem?_getD, ew]; rfl
      rw [z] at e2
      exact e2
    rw [e3] at e1
    cases e1
    exact q
  · cases l with
    | none => exact absurd ha (by simp)
    | some j =>
      obtain ⟨h1, h2⟩ := R.own j a ha
      refine ⟨h1, h2.imp id fun z => ?_⟩
      have z : (if a ∈ as then some j else none) = some j := z
      by_cases ha2 : a ∈ as
      · exact ha2
      · rw [if_neg ha2] at z; cases z
/-- behind a call: i the slot that was lent -/
theorem Rel.after {C : Fx} {F' H' : Hp} {fp : Nat → List Addr} {τ : T} {σ : L2.St} {r o : OV} {v : V} {bs cs : List Addr} {F H : Hp} {i : Nat} {j : Nat} {o0 : OV} (R : Rel K C F fp τ σ H) (e : slotAt τ i = some o0) (ha : as = fp i) (hv : ∃ w, σ[i]? = some (some w) ∧ vs[j]? = some w) (P : Post K (some j) F H as vs r o F' H' v bs cs) :
    Rel K C F' (fpSet fp i cs) (τ.set i (some o)) σ H' ∧ Tmp K C F' (fpSet fp i cs) H' r v bs := by
  subst ha
  have il := slotAt_lt e
  obtain ⟨w, ew, ewj⟩ := hv
  have out : ∀ {b : Addr}, F b = none → H b ≠ none → F' b = none := fun {b} h1 h2 => by
    cases z : F' b with
    | none => rfl
    | some u =>
      rcases P.new b u z with q | q
      · exact absurd h1 q
      · exact absurd q h2
  have fpo : ∀ {k : Nat} {b : Addr}, k ≠ i → b ∈ fp k → b ∉ fp i := fun {k b} hk hb z => hk (R.apart k i b hb z)
  have cfr : ∀ {b : Addr} {k : Nat}, b ∈ cs → k ≠ i → b ∉ fp k := fun {b k} hb hk z => by
    rcases (P.lentn b hb).2 with q | q
    · exact R.lay k b z q
    · exact fpo hk z q
  refine ⟨⟨P.sub, fun a u q => P.old a u (R.old a u q), fun a u q1 q2 => P.frame a u (R.frame a u q1 q2) fun z => ?_, fun a u q => ?_, by rw [List.length_set]; exact R.len, fun k u q => ?_, fun k m a q1 q2 => ?_, fun k a q => ?_, fun k a q => ?_, fun a q => R.stay a (P.stay a q), R.lent, R.ioc, fun t ht => ?_⟩, ⟨P.ans, fun a q k z => ?_, fun a q => ⟨(P.ansn a q).1, R.stay a (P.ansn a q).2.1⟩, fun a q t ht z => ((R.pend t ht).2 a z).2.1 (P.ansn a q).2.1⟩⟩
  · rcases (R.own i a z).2 with y | y
    · rw [y] at q1; cases q1
    · rw [y] at q2; cases q2
  · rcases P.new a u q with y | y
    · cases z : F a with
      | none => exact absurd z y
      | some u' => exact R.new a u' z
    · exact .inr (R.stay a y)
  · by_cases hk : k = i
    · subst hk
      rw [slotAt_set_same il] at q
      cases q
      exact ⟨w, ew, by rw [fpSet_same]; exact P.lent j w rfl ewj⟩
    · rw [slotAt_set_ne (Ne.symm hk)] at q
      obtain ⟨x, e1, y⟩ := R.slot k u q
      rw [fpSet_ne hk]
      exact ⟨x, e1, y.keep P.old fun b hb z hz => P.frame b z hz (fpo hk hb)⟩
  · by_cases hk : k = i
    · by_cases hm : m = i
      · rw [hk, hm]
      · subst hk
        rw [fpSet_same] at q1
        rw [fpSet_ne hm] at q2
        exact absurd q2 (cfr q1 hm)
    · by_cases hm : m = i
      · subst hm
        rw [fpSet_same] at q2
        rw [fpSet_ne hk] at q1
        exact absurd q1 (cfr q2 hk)
      · rw [fpSet_ne hk] at q1
        rw [fpSet_ne hm] at q2
        exact R.apart k m a q1 q2
  · by_cases hk : k = i
    · subst hk
      rw [fpSet_same] at q
      refine ⟨(P.lentn a q).1, ?_⟩
      rcases (P.lentn a q).2 with y | y
      · exact .inl (R.stay a y)
      · exact (R.own k a y).2
    · rw [fpSet_ne hk] at q
      exact ⟨out (R.own k a q).1 (R.lay k a q), (R.own k a q).2⟩
  · by_cases hk : k = i
    · subst hk
      rw [fpSet_same] at q
      obtain ⟨us, z⟩ := (P.lent j w rfl ewj).there a q
      rw [z]; simp
    · rw [fpSet_ne hk] at q
      exact fun z => R.lay k a q (P.stay a z)
  · obtain ⟨g, m⟩ := R.pend t ht
    refine ⟨g.keep P.old fun b hb z hz => P.frame b z hz ((m b hb).2.2 i), fun a q => ⟨out (m a q).1 (m a q).2.1, fun z => (m a q).2.1 (P.stay a z), fun k z => ?_⟩⟩
    by_cases hk : k = i
    · subst hk
      rw [fpSet_same] at z
      rcases (P.lentn a z).2 with y | y
      · exact (m a q).2.1 y
      · exact (m a q).2.2 k y
    · rw [fpSet_ne hk] at z
      exact (m a q).2.2 k z
  · by_cases hk : k = i
    · subst hk
      rw [fpSet_same] at z
      exact (P.ansn a q).2.2 z
    · rw [fpSet_ne hk] at z
      exact R.lay k a z (P.ansn a q).2.1
/-- behind a call that was lent nothing -/
theorem Rel.after0 {C : Fx} {F' H' : Hp} {fp : Nat → List Addr} {τ : T} {σ : L2.St} {r o : OV} {v : V} {bs cs : List Addr} {F H : Hp} (R : Rel K C F fp τ σ H) (P : Post K none F H [] vs r o F' H' v bs cs) :
    Rel K C F' fp τ σ H' ∧ Tmp K C F' fp H' r v bs := by
  refine ⟨R.grow (fun a u q => P.frame a u q (by simp)) P.old P.sub fun a u q => ?_, ⟨P.ans, fun a q k z => R.lay k a z (P.ansn a q).2.1, fun a q => ⟨(P.ansn a q).1, R.stay a (P.ansn a q).2.1⟩, fun a q t ht z => ((R.pend t ht).2 a z).2.1 (P.ansn a q).2.1⟩⟩
  rcases P.new a u q with y | y
  · cases z : F a with
    | none => exact absurd z y
    | some u' =>
      have := P.old a u' z
      rw [q] at this
      cases this
      exact .inl rfl
  · exact .inr y
end
end Pf

/-! Pf9: contexts, defs, calls. -/
namespace Pf
open PySem PySem.Spec PyProof.Rows L2

/-- what the rules ask of a context, told once -/
structure Cd where
  P : Program
  w : World
  K : PySem.W.Frag
  mg : Str → Option Value
  base : Heap
  N : List Str
  sc : Scope
  fb : Str → Bool
structure Bd (X : Cx) (c : Cd) (k : Nat) : Prop where
  prog : X.prog = c.P
  w : X.w = c.w
  K : X.K = c.K
  mg : X.mg = c.mg
  base : X.base = c.base
  N : X.N = c.N
  sc : X.env.scope = c.sc
  fb : X.fn = c.fb
  calm : X.calm = true
  guards : X.A.guards = some []
  room : Room k X.A
  nox : X.xe = fun _ _ => False
  nd : c.N.Nodup

/-! ### defs -/
structure FnG (P : Program) (w : World) (K : PySem.W.Frag) (mg : Str → Option Value) (base : Heap) (k : Nat) (f : Addr) (fd : FuncData) (ps : List Str) (sp : Sp) : Prop where
  cnt : ∀ vs H Q, sp vs H Q E0 → vs.length = ps.length
  go : ∀ {A : Around} {outer : List Env} {s : Shared} {H : Hp} {args : Args} {us : List Value} {vs : List V} {Q : VK}, A.guards = some [] → Room k A → Env0 P w K mg base A outer s H → BindsTo s fd args (ps.zip us) → Vals vs us → sp vs H Q E0 →
    codeAny (model P w) A (.call (.ref f) args) (CR CX0 outer P w H s Q E0) s
theorem FnG.up {P : Program} {w : World} {K : PySem.W.Frag} {mg : Str → Option Value} {base : Heap} {j k : Nat} {f : Addr} {fd : FuncData} {ps : List Str} {sp : Sp} (G : FnG P w K mg base j f fd ps sp) (h : j ≤ k) : FnG P w K mg base k f fd ps sp :=
  ⟨G.cnt, fun hg hr => G.go hg (hr.mono h)⟩
section
variable {P : Program} {w : World} {K : PySem.W.Frag} {mg : Str → Option Value} {base : Heap} {k : Nat} {f : Addr} {fd : FuncData} {name qual : Str} {params : Arguments} {body : List Stmt} {scope : Scope} {N ps : List Str}
theorem fng_of {sp : Sp} (FD : FunD K name qual params body scope [] [] f fd) (S : FnScope N ps scope) (cnt : ∀ vs H Q, sp vs H Q E0 → vs.length = ps.length)
    (hb : ∀ (X : Cx), Bd X ⟨P, w, K, mg, base, N, scope, fun _ => true⟩ k → ∀ (vs : List V) (H : Hp) (Q : VK), sp vs H Q E0 → ∃ t, PSs X body t ∧ t { nx := fun _ H' => Q .non H', rt := Q } (L2.start N vs) H) :
    FnG P w K mg base (k + 1) f fd ps sp := by
  obtain ⟨oc, od, dV, kV, doc, pm, an, cdv, ct, osl, rfl, lk, hcd, _, _⟩ := FD.ex
  refine ⟨cnt, fun {A outer s H args us vs Q} gd rm e0 bt rv hsp => ?_⟩
  have lv := cnt _ _ _ hsp
  have inK : K.In s.heap := e0.mod.kin.keeps fun b o q => (e0.bs b o q).1
  have nl : s.heap.NoLimit := e0.mod.nolimit.keeps fun b o q => (e0.bs b o q).1
  have kinds : ∀ y ∈ ps.zip us, scope.names.lookup y.1 = some .local ∨ (scope.names.lookup y.1 = some .cell ∧ ((cellsFrom (s.heap.objs.size + 1) scope.names []).lookup y.1).isSome = true) := by
    intro y hy
    obtain ⟨n, v⟩ := y
    exact (S.par n (List.of_mem_zip hy).1).imp id fun q => ⟨q, PySem.W.cellsFrom_some _ _ _ (.inl q)⟩
  refine codeAny_call_function rm.depth (inK _ _ lk) rfl S.co S.gen rfl (PySem.W.codeRec_of inK hcd) (bt _ _ _ _ ?_)
  refine wpAny_newFunctionEnv_cells S.kind kinds fun env eh s1 ic => ?_
  subst eh
  refine ⟨nl.keeps ic.toInCall.keep, codeAny_func ?_⟩
  have B : Bd (cxOf CX0 P w K mg base N qual scope f cdv A outer s H E0).nox ⟨P, w, K, mg, base, N, scope, fun _ => true⟩ k := ⟨rfl, rfl, rfl, rfl, rfl, rfl, rfl, rfl, rfl, gd, rm.deeper _, rfl, S.nd⟩
  obtain ⟨t, ht, hq⟩ := hb _ B vs H Q hsp
  have I := inv_start (CX := CX0) (P := P) (w := w) (mg := mg) (base := base) (qual := qual) (f := f) (cd := cdv) (E := E0) S rm.hd e0 lv rv ic
  refine wpAny_mono (ht.nox.run [] s1 (L2.start N vs) H _ I hq) (fun fl s' hs => ?_) fun e s' hs => hs
  cases fl with
  | next =>
    obtain ⟨σ', H', J, q⟩ := hs
    exact ⟨.non, H', J.os, J.bare, J.base, J.hok, rfl, q⟩
  | ret u =>
    obtain ⟨v, σ', H', J, r, q⟩ := hs
    exact ⟨v, H', J.os, J.bare, J.base, J.hok, r, q⟩
  | brk => obtain ⟨_, _, _, q⟩ := hs; exact q.elim
  | cont => obtain ⟨_, _, _, q⟩ := hs; exact q.elim
/-- a def by its body's function -/
theorem fn_ok {l : Option Nat} {g : FS} (FD : FunD K name qual params body scope [] [] f fd) (S : FnScope N ps scope) (hb : ∀ (X : Cx), Bd X ⟨P, w, K, mg, base, N, scope, fun _ => true⟩ k → XB X l.toList body g) :
    FnG P w K mg base (k + 1) f fd ps (spP K ps.length l (runF N.length ps.length l g)) := by
  refine fng_of FD S (fun vs H Q h => ?_) fun X B vs H Q h => ⟨_, hb X B, ?_⟩
  · obtain ⟨F, os, as, r, o, _, _, ha, hl, _⟩ := h
    rw [← ha.length, hl]
  · obtain ⟨F, os, as, r, o, sm, hn, ha, hl, e, q⟩ := h
    unfold runF at e
    rw [if_pos hl] at e
    obtain ⟨⟨fl, τ'⟩, e1, e⟩ := Res.bind_ok e
    have R := rel_start (N := N) sm hn ha hl
    have bk : X.K = K := B.K
    rw [← bk] at R
    refine ⟨fxOf F H l as vs, F, _, _, fl, τ', fxOf_ios, R, e1, fun F' fp' σ' H' R' s' => ?_⟩
    rw [bk] at R'
    cases fl with
    | rt r' =>
      obtain ⟨o', e2, e3⟩ := Res.bind_ok e
      cases e3
      intro v bs t
      rw [bk] at t
      exact q F' H' v bs _ (rel_end ha R' t e2)
    | nx =>
      obtain ⟨o', e2, e3⟩ := Res.bind_ok e
      cases e3
      obtain ⟨R2, bs, t⟩ := (grow_non R'.sub).rel R'
      exact q F' H' .non bs _ (rel_end ha R2 t e2)
    | bk => cases e
    | ct => cases e
end

/-! ### calls -/
/-- what a caller knows of a def -/
structure Cal (c : Cd) (k : Nat) (x : Str) (n : Nat) (l : Option Nat) (fn : FV) : Prop where
  ex : ∃ f fd ps, FnG c.P c.w c.K c.mg c.base k f fd ps (spP c.K n l fn) ∧ c.mg x = some (.ref f) ∧ PySem.W.keepIn c.K (.ref f) = true ∧ Binds c.K fd ps []
/-- the arguments' values, the slot that is lent -/
def argsOf (τ : T) : Option Nat → List Pre → Option (List OV × Nat)
  | none, ps => (datas ps).map fun ds => (ds.map OV.fz, 0)
  | some 0, .sl i :: ps => match slotAt τ i, datas ps with
    | some (.ls xs), some ds => some (.ls xs :: ds.map OV.fz, i)
    | _, _ => none
  | some (j + 1), .val (.fz d) :: ps => (argsOf τ (some j) ps).map fun (os, i) => (.fz d :: os, i)
  | _, _ => none
def callF (n : Nat) (l : Option Nat) (fn : FV) (h : FA) : FP := fun τ => (h τ).bind fun (ps, τ1) => match argsOf τ1 l ps with
  | some (os, i) => if os.length = n then (fn os).bind fun (r, o) => .ok (.val r, if l.isSome = true then τ1.set i (some o) else τ1) else .bad
  | none => .bad
section
variable {X : Cx} {K : PySem.W.Frag} {C : Fx} {F : Hp} {fp : Nat → List Addr} {τ : T} {σ : L2.St} {H : Hp}
theorem argsOf_ok (R : Rel K C F fp τ σ H) : ∀ {l : Option Nat} {ps : List Pre} {vs : List V} {os : List OV} {i : Nat}, OpdRs K F σ ps vs → argsOf τ l ps = some (os, i) →
    ArgsR K F H (if l.isSome = true then fp i else []) l os vs ∧ (l.isSome = true → ∃ o0, slotAt τ i = some o0) ∧ ∀ j, l = some j → ∃ w, σ[i]? = some (some w) ∧ vs[j]? = some w
  | none, ps, vs, os, i, h, e => by
    unfold argsOf at e
    cases z : datas ps with
    | none => rw [z] at e; cases e
    | some ds =>
      rw [z] at e
      cases e
      refine ⟨?_, fun y => absurd y (by simp), fun j y => (nomatch y)⟩
      rw [ArgsR]
      exact ⟨ds, rfl, h.datas z, rfl⟩
  | some 0, ps, vs, os, i, h, e => by
    cases ps with
    | nil => cases e
    | cons p ps =>
      cases p with
      | val r => cases e
      | sl m =>
        unfold argsOf at e
        split at e
        · rename_i xs ds hs hd
          cases e
          rw [OpdRs] at h
          obtain ⟨v, ws, rfl, hv, hw⟩ := h
          obtain ⟨w, e1, q⟩ := R.slot _ _ hs
          have e2 : some (some w) = some (some v) := e1.symm.trans hv
          cases e2
          refine ⟨?_, fun _ => ⟨_, hs⟩, fun j y => ?_⟩
          · rw [ArgsR]
            exact ⟨xs, ds, v, ws, rfl, rfl, q, hw.datas hd⟩
          · cases y
            exact ⟨v, hv, rfl⟩
        · cases e
  | some (j + 1), ps, vs, os, i, h, e => by
    cases ps with
    | nil => cases e
    | cons p ps =>
      cases p with
      | sl m => cases e
      | val r =>
        cases r with
        | ls xs => cases e
        | fz d =>
          unfold argsOf at e
          cases z : argsOf τ (some j) ps with
          | none => rw [z] at e; cases e
          | some y =>
            obtain ⟨os', i'⟩ := y
            rw [z] at e
            cases e
            rw [OpdRs] at h
            obtain ⟨v, ws, rfl, ⟨d', e', hv⟩, hw⟩ := h
            cases e'
            obtain ⟨q1, q2, q3⟩ := argsOf_ok R hw z
            refine ⟨?_, q2, fun m y => ?_⟩
            · rw [ArgsR]
              exact ⟨d, os', v, ws, rfl, rfl, hv, q1⟩
            · cases y
              obtain ⟨w, e1, e2⟩ := q3 j rfl
              exact ⟨w, e1, by simpa using e2⟩
theorem call_open {io : List Nat} {n : Nat} {l : Option Nat} {fn : FV} {h : FA} {Q : VK} (w : rdP X.K io (callF n l fn h) σ H Q) : tCall (spP X.K n l fn) [] E0 (rdA X.K io h) σ H Q := by
  obtain ⟨C, F, fp, τ, p, τ', hio, R, e, q⟩ := w
  obtain ⟨⟨ps, τ1⟩, e1, e⟩ := Res.bind_ok e
  refine ⟨C, F, fp, τ, ps, τ1, hio, R, e1, fun F1 fp1 H1 vs R1 s1 w1 => ?_⟩
  dsimp only at e
  cases z : argsOf τ1 l ps with
  | none => rw [z] at e; cases e
  | some y =>
    obtain ⟨os, i⟩ := y
    rw [z] at e
    dsimp only at e
    by_cases hl : os.length = n
    · rw [if_pos hl] at e
      obtain ⟨⟨r, o⟩, e2, e3⟩ := Res.bind_ok e
      obtain ⟨ha, hs, hj⟩ := argsOf_ok R1 w1 z
      rw [List.append_nil]
      refine ⟨F1, os, _, r, o, R1.sub, fun a y => ?_, ha, hl, e2, fun F2 H2 v bs cs P => ?_⟩
      · split at y
        · exact (R1.own i a y).1
        · exact absurd y (by simp)
      · cases l with
        | none =>
          cases e3
          obtain ⟨R2, t⟩ := R1.after0 P
          exact q F2 fp1 H2 v R2 (s1.trans P.old) ⟨bs, t⟩
        | some j =>
          cases e3
          obtain ⟨o0, es⟩ := hs rfl
          obtain ⟨R2, t⟩ := Rel.after (j := j) R1 es rfl (hj j rfl) P
          exact q F2 _ H2 v R2 (s1.trans P.old) ⟨bs, t⟩
    · rw [if_neg hl] at e; cases e
/-- the callee runs -/
theorem run_fng {c : Cd} {j k n : Nat} {f : Addr} {fd : FuncData} {ps : List Str} {l : Option Nat} {fn : FV} {pins : List (Addr × Obj)} {s : Shared} {Q : VK} {us : List Value} {vs : List V} (B : Bd X c k) (G : FnG c.P c.w c.K c.mg c.base j f fd ps (spP c.K n l fn)) (hj : j ≤ k) (hb : Binds c.K fd ps [])
    (I : Inv X pins σ H s) (r : Vals vs us) (h : spP c.K n l fn vs H Q E0) : wpAny (model X.prog X.w) X.A (call (.ref f) us) (EP X pins σ Q) X.xe s := by
  have lu : us.length = ps.length := by rw [← r.length]; exact G.cnt _ _ _ h
  have kin : c.K.In s.heap := by rw [← B.K]; exact I.kIn
  have bt := hb s us kin (by rw [List.append_nil]; exact lu)
  rw [List.append_nil] at bt
  have e0 := I.env0
  rw [B.prog, B.w, B.K, B.mg, B.base] at e0
  have run := G.go (outer := X.stack) B.guards (B.room.mono hj) e0 bt r h
  rw [← B.prog, ← B.w] at run
  refine wpAny_call (codeAny_mono run fun res s' hq => ?_)
  cases res with
  | error e => exact False.elim hq
  | ok fl =>
    cases fl with
    | ret u => exact I.after hq
    | next => exact False.elim hq
    | brk => exact False.elim hq
    | cont => exact False.elim hq
theorem xp_call {c : Cd} {j k n : Nat} {io : List Nat} {x : Str} {l : Option Nat} {fn : FV} {h : FA} {e : Expr} {es : List Expr} {p pos : Pos} (B : Bd X c k) (cl : Cal c j x n l fn) (hj : j ≤ k) (hg : Gl X x) (hdb : (x == ("__debug__" : Str)) = false) (hn : (e :: es).all notStar = true) (ha : XA X io (e :: es) h) :
    XP X io (.Call (.Name x p) (e :: es) [] pos) (callF n l fn h) := by
  obtain ⟨f, fd, ps, G, hm, hk, hb⟩ := cl.ex
  rw [← B.mg] at hm
  rw [← B.K] at hk
  refine pe_weak (t := tCall (spP X.K n l fn) [] E0 (rdA X.K io h)) ⟨fun pins s σ H Q I w => ?_⟩ fun σ H Q w => call_open w
  refine wpAny_Call_Name_kw (ld_glob I hg hm ?_ hdb)
  rw [List.all_cons, Bool.and_eq_true] at hn
  refine PySem.W.callWith_K (h₀ := X.base) I.ok.mod.kin hk (thn (ha.run pos pins s σ H _ I w) fun us s1 ⟨vs, H1, I1, r, q⟩ => ⟨I1.kIn, ?_⟩) (star_cons hn.1) (star_any hn.2)
  have q : spP X.K n l fn (vs ++ []) H1 Q E0 := q
  rw [List.append_nil, B.K] at q
  exact run_fng B G hj hb I1 r q
theorem xp_call0 {c : Cd} {j k n : Nat} {io : List Nat} {x : Str} {l : Option Nat} {fn : FV} {p pos : Pos} (B : Bd X c k) (cl : Cal c j x n l fn) (hj : j ≤ k) (hg : Gl X x) (hdb : (x == ("__debug__" : Str)) = false) :
    XP X io (.Call (.Name x p) [] [] pos) (callF n l fn nilA) := by
  obtain ⟨f, fd, ps, G, hm, hk, hb⟩ := cl.ex
  rw [← B.mg] at hm
  rw [← B.K] at hk
  refine pe_weak (t := tCall (spP X.K n l fn) [] E0 tNil) ⟨fun pins s σ H Q I w => ?_⟩ fun σ H Q w => ?_
  · refine wpAny_Call_Name_kw (ld_glob I hg hm ?_ hdb)
    refine PySem.W.callWith_K0 I.kIn hk ?_
    have w : spP X.K n l fn [] H Q E0 := w
    rw [B.K] at w
    exact run_fng B G hj hb I .nil w
  · obtain ⟨C, F, fp, τ, ps, τ', hio, R, e, q⟩ := call_open w
    cases e
    exact q F fp H [] R (Same.refl _) rfl
end
end Pf

/-! Pf10: stores in place, displays of new lists, parallel stores, comprehensions, all by a context's card. -/
namespace Pf
open PySem PySem.Spec PyProof.Rows L2

/-! ### xs[i] = v, xs[i] op= v -/
def intOf : Option OV → Option Int
  | some (.fz (.int k)) => some k
  | _ => none
theorem intOf_ok {o : Option OV} {k : Int} (h : intOf o = some k) : o = some (.fz (.int k)) := by
  unfold intOf at h
  split at h
  · cases h; rfl
  · cases h
/-- the list in slot i, the k-th item otherwise -/
def setAt (i : Nat) (k : Int) (d : D) (τ : T) : Res T := match slotAt τ i with
  | some (.ls xs) => match ixN xs.length k with
    | some j => match xs[j]? with
      | some (.fz _) => .ok (τ.set i (some (.ls (xs.set j (.fz d)))))
      | _ => .bad
    | none => .bad
  | _ => .bad
def stS (io : List Nat) (f fo fi : FP) : FS := fun τ => (f τ).bind fun (p, τ1) => (settle io p τ1).bind fun (d, τ2) => (fo τ2).bind fun (q, τ3) => match q with
  | .sl i => (fi τ3).bind fun (r, τ4) => match intOf (vw τ4 (opd r)) with
    | some k => (setAt i k d τ4).bind fun τ5 => .ok (.nx, τ5)
    | none => .bad
  | _ => .bad
theorem Owns.setFz {K : PySem.W.Frag} {F H : Hp} {d d0 : D} {v : V} (r : Rep K F d v) : ∀ {os : List OV} {vs : List V} {bs : List Addr} {j : Nat}, Owns K F H os vs bs → os[j]? = some (.fz d0) → Owns K F H (os.set j (.fz d)) (vs.set j v) bs
  | [], _, _, _, _, e => by simp at e
  | x :: xs, vs, bs, 0, h, e => by
    rw [Owns] at h
    obtain ⟨w, ws, b1, b2, rfl, rfl, q, qs, m⟩ := h
    simp at e; subst e
    rw [Own.fz_iff] at q
    rw [List.set_cons_zero, List.set_cons_zero, Owns]
    exact ⟨v, ws, b1, b2, rfl, rfl, by rw [q.1]; exact Own.of_rep r, qs, m⟩
  | x :: xs, vs, bs, j + 1, h, e => by
    rw [Owns] at h
    obtain ⟨w, ws, b1, b2, rfl, rfl, q, qs, m⟩ := h
    rw [List.set_cons_succ, List.set_cons_succ, Owns]
    exact ⟨w, ws.set j v, b1, b2, rfl, rfl, q, Owns.setFz r qs (by simpa using e), m⟩
section
variable {X : Cx} {io : List Nat} {pos tpos : Pos} {e eo ei : Expr} {f fo fi : FP}
theorem setAt_ok {K : PySem.W.Frag} {C : Fx} {F : Hp} {fp : Nat → List Addr} {τ τ' : T} {σ : L2.St} {H : Hp} {i : Nat} {k : Int} {d : D} {v w : V} (R : Rel K C F fp τ σ H) (r : Rep K F d v) (hw : σ[i]? = some (some w)) (e : setAt i k d τ = .ok τ') :
    ∃ p xs j, w = .ref p ∧ H p = some (.lst xs) ∧ ixN xs.length k = some j ∧ Rel K C F fp τ' σ (upd H p (.lst (xs.set j v))) := by
  unfold setAt at e
  split at e
  · rename_i xs hs
    split at e
    · rename_i j hj
      split at e
      · rename_i d0 hd
        cases e
        obtain ⟨a, vs, bs, e1, e2, hH, n, rs⟩ := R.listSlot hs
        rw [e1] at hw
        cases hw
        refine ⟨a, vs, j, rfl, hH, by rw [← rs.length]; exact hj, ?_⟩
        exact R.write hs e2 (rs.setFz r hd) n e1
      · cases e
    · cases e
  · cases e
theorem st_open {D : Ends} {σ : L2.St} {H : Hp} (h : rdS X.K io (stS io f fo fi) D σ H) : tAsg (rdP X.K io f) (gSub (rdP X.K io fo) (rdP X.K io fi) rSetL) D σ H := by
  obtain ⟨C, F, fp, τ, fl, τ', hio, R, e, q⟩ := h
  obtain ⟨⟨p, τ1⟩, e1, e⟩ := Res.bind_ok e
  obtain ⟨⟨d, τ2⟩, e2, e⟩ := Res.bind_ok e
  obtain ⟨⟨q2, τ3⟩, e3, e⟩ := Res.bind_ok e
  refine ⟨C, F, fp, τ, p, τ1, hio, R, e1, fun F1 fp1 H1 v R1 s1 w1 => ?_⟩
  obtain ⟨F2, fp2, R2, s2, t⟩ := R1.settle hio w1 e2
  refine ⟨C, F2, fp2, τ2, q2, τ3, hio, R2, e3, fun F3 fp3 H3 o R3 s3 w3 => ?_⟩
  cases q2 with
  | val r => cases e
  | sl i =>
    obtain ⟨⟨r, τ4⟩, e4, e⟩ := Res.bind_ok e
    refine ⟨C, F3, fp3, τ3, r, τ4, hio, R3, e4, fun F4 fp4 H4 y R4 s4 w4 => ?_⟩
    obtain ⟨F5, R5, s5, w5⟩ := R4.opd w4
    dsimp only at e
    cases hk : intOf (vw τ4 (opd r)) with
    | none => rw [hk] at e; cases e
    | some k =>
      rw [hk] at e
      obtain ⟨τ5, e5, e6⟩ := Res.bind_ok e
      cases e6
      have hy := (R5.vw w5 (intOf_ok hk)).int
      obtain ⟨a, xs, j, ea, hH, hj, R6⟩ := setAt_ok R5 (t.mono ((s3.trans s4).trans s5)) w3 e5
      exact ⟨a, xs, k, j, ea, hy, hH, hj, q F5 fp4 σ _ R6 ((((s1.trans s2).trans s3).trans s4).trans s5)⟩
theorem xs_st (hc : isComp e = false) (hw : swappedStores [.Subscript eo ei tpos] e X.env = pure none) (hx : noSlice ei = true) (he : XP X io e f) (ho : XP X io eo fo) (hi : XP X io ei fi) : XS X io (.Assign [.Subscript eo ei tpos] e pos) (stS io f fo fi) := by
  refine ps_weak (ps_asg he (pg_sub ho hi set_list ?_) (swaps_no (t := some (.Subscript eo ei tpos)) (l := pos.line) (env := X.env) hc) hw rfl) fun _ _ _ h => st_open h
  intro v
  cases ei <;> first | rfl | (exact absurd hx (by simp [noSlice]))
/-- the item k of the list in slot i, an int -/
def intAt (i : Nat) (k : Int) (τ : T) : Option Int := match slotAt τ i with
  | some (.ls xs) => intOf (atI xs k)
  | _ => none
def augS (fo fi g : FP) (op : Int → Int → Int) : FS := fun τ => (fo τ).bind fun (q, τ1) => match q with
  | .sl i => (fi τ1).bind fun (r, τ2) => match intOf (vw τ2 (opd r)) with
    | some k => match intAt i k τ2 with
      | some a => (g τ2).bind fun (p, τ3) => match intOf (vw τ3 (opd p)) with
        | some b => (setAt i k (.int (op a b)) τ3).bind fun τ4 => .ok (.nx, τ4)
        | none => .bad
      | none => .bad
    | none => .bad
  | _ => .bad
def getL (K : PySem.W.Frag) : V → V → Hp → VK → Prop := fun o i H Q => ∃ p xs k v, o = .ref p ∧ i = .int k ∧ SqL K H p xs ∧ atI xs k = some v ∧ Q v H
theorem pget_list : PGet X (getL X.K) := by
  intro pins s σ H o i ov iv Q I ro ri ⟨p, xs, k, z, e1, e2, hq, he, q⟩
  subst e1 e2
  cases ro
  obtain ⟨t, rfl⟩ := ri
  obtain ⟨its, r, pl, hz⟩ := I.list hq
  obtain ⟨j, h1, h2, h3, h4, h5⟩ := atI_get he
  obtain ⟨w, ew, rw'⟩ := r.get h2
  have hl := r.length
  have hn := line63
  by_cases h0 : 0 ≤ k
  · have hj : k.toNat = j := by
      rw [seqIndex_of h0 h5] at h1
      exact Option.some.inj h1
    exact wpAny_getItem_list pl.isList h0 (by omega) (by rw [hj]; simpa using ew) ⟨z, H, I, rw', q⟩
  · have hj : (k + (its.toArray.size : Int)).toNat = j := by
      rw [seqIndex_neg (by omega) h4] at h1
      rw [List.size_toArray, ← hl]
      exact Option.some.inj h1
    exact wpAny_getItem_list_neg pl.isList (by omega) (by rw [List.size_toArray] <;> omega) (by omega) (by rw [hj]; simpa using ew) ⟨z, H, I, rw', q⟩
theorem intAt_ok {K : PySem.W.Frag} {C : Fx} {F : Hp} {fp : Nat → List Addr} {τ : T} {σ : L2.St} {H : Hp} {i : Nat} {k a : Int} {w : V} (R : Rel K C F fp τ σ H) (hw : σ[i]? = some (some w)) (e : intAt i k τ = some a) : ∃ p xs, w = .ref p ∧ SqL K H p xs ∧ atI xs k = some (.int a) := by
  unfold intAt at e
  split at e
  · rename_i xs hs
    obtain ⟨p, vs, bs, e1, e2, hH, n, rs⟩ := R.listSlot hs
    rw [e1] at hw
    cases hw
    obtain ⟨j, ej, ej2⟩ := atI_len rs.length (intOf_ok e)
    obtain ⟨z, bs', ez, rz⟩ := rs.get ej
    rw [Own.fz_iff] at rz
    have hz := rz.2
    rw [Rep] at hz
    exact ⟨p, vs, rfl, SqL.of hH, by rw [ej2, ez, hz]⟩
  · cases e
theorem aug_open {g : FP} {op : Int → Int → Int} {D : Ends} {σ : L2.St} {H : Hp} (h : rdS X.K io (augS fo fi g op) D σ H) : tAugS (rdP X.K io fo) (rdP X.K io fi) (rdP X.K io g) (getL X.K) (ipI op) rSetL D σ H := by
  obtain ⟨C, F, fp, τ, fl, τ', hio, R, e, q⟩ := h
  obtain ⟨⟨q1, τ1⟩, e1, e⟩ := Res.bind_ok e
  refine ⟨C, F, fp, τ, q1, τ1, hio, R, e1, fun F1 fp1 H1 o R1 s1 w1 => ?_⟩
  cases q1 with
  | val r => cases e
  | sl i =>
    obtain ⟨⟨r, τ2⟩, e2, e⟩ := Res.bind_ok e
    refine ⟨C, F1, fp1, τ1, r, τ2, hio, R1, e2, fun F2 fp2 H2 y R2 s2 w2 => ?_⟩
    obtain ⟨F3, R3, s3, w3⟩ := R2.opd w2
    dsimp only at e
    cases hk : intOf (vw τ2 (opd r)) with
    | none => rw [hk] at e; cases e
    | some k =>
      rw [hk] at e
      dsimp only at e
      have hy := (R3.vw w3 (intOf_ok hk)).int
      cases ha : intAt i k τ2 with
      | none => rw [ha] at e; cases e
      | some a =>
        rw [ha] at e
        obtain ⟨⟨p, τ3⟩, e4, e⟩ := Res.bind_ok e
        obtain ⟨b, xs, eb, hq, hv⟩ := intAt_ok R3 w1 ha
        refine ⟨b, xs, k, _, eb, hy, hq, hv, C, F3, fp2, τ2, p, τ3, hio, R3, e4, fun F4 fp4 H4 z R4 s4 w4 => ?_⟩
        obtain ⟨F5, R5, s5, w5⟩ := R4.opd w4
        dsimp only at e
        cases hb : intOf (vw τ3 (opd p)) with
        | none => rw [hb] at e; cases e
        | some c =>
          rw [hb] at e
          obtain ⟨τ4, e5, e6⟩ := Res.bind_ok e
          cases e6
          have hz := (R5.vw w5 (intOf_ok hb)).int
          obtain ⟨a', xs', j, ea, hH, hj, R6⟩ := setAt_ok (v := .int (op a c)) R5 (by rw [Rep]) w1 e5
          exact ⟨a, c, rfl, hz, a', xs', k, j, ea, hy, hH, hj, q F5 fp4 σ _ R6 ((((s1.trans s2).trans s3).trans s4).trans s5)⟩
theorem xs_augIx {eg : Expr} {g : FP} {o : Operator} {op : Int → Int → Int} (hp : PIp X o (ipI op)) (hx : noSlice ei = true) (ho : XP X io eo fo) (hi : XP X io ei fi) (hg : XP X io eg g) : XS X io (.AugAssign (.Subscript eo ei tpos) o eg pos) (augS fo fi g op) := by
  refine ps_weak (ps_augS ho hi pget_list hg hp set_list ?_) fun _ _ _ h => aug_open h
  intro ov iv new
  cases ei <;> first | rfl | (exact absurd hx (by simp [noSlice]))
/-- x op= e, ints -/
def augN (io : List Nat) (i : Nat) (g : FP) (op : Int → Int → Int) : FS := fun τ => match intOf (slotAt τ i) with
  | some a => (g τ).bind fun (p, τ1) => match intOf (vw τ1 (opd p)) with
    | some b => (putS io i (.fz (.int (op a b))) τ1).bind fun τ2 => .ok (.nx, τ2)
    | none => .bad
  | none => .bad
theorem augN_open {i : Nat} {g : FP} {op : Int → Int → Int} {D : Ends} {σ : L2.St} {H : Hp} (h : rdS X.K io (augN io i g op) D σ H) : tAug i (rdP X.K io g) (ipI op) D σ H := by
  obtain ⟨C, F, fp, τ, fl, τ', hio, R, e, q⟩ := h
  unfold augN at e
  cases ha : intOf (slotAt τ i) with
  | none => rw [ha] at e; cases e
  | some a =>
    rw [ha] at e
    obtain ⟨⟨p, τ1⟩, e1, e⟩ := Res.bind_ok e
    obtain ⟨v, ev, w⟩ := R.slot i _ (intOf_ok ha)
    rw [Own.fz_iff] at w
    have hv := w.2
    rw [Rep] at hv
    refine ⟨v, ev, C, F, fp, τ, p, τ1, hio, R, e1, fun F1 fp1 H1 z R1 s1 w1 => ?_⟩
    obtain ⟨F2, R2, s2, w2⟩ := R1.opd w1
    dsimp only at e
    cases hb : intOf (vw τ1 (opd p)) with
    | none => rw [hb] at e; cases e
    | some b =>
      rw [hb] at e
      obtain ⟨τ2, e2, e3⟩ := Res.bind_ok e
      cases e3
      have hz := (R2.vw w2 (intOf_ok hb)).int
      obtain ⟨R3, as, t⟩ := (grow_int R2.sub (op a b)).rel R2
      exact ⟨a, b, hv, hz, q F2 _ _ _ (R3.put hio t e2) (s1.trans s2)⟩
theorem xs_augN {i : Nat} {x : Str} {eg : Expr} {g : FP} {o : Operator} {op : Int → Int → Int} (hp : PIp X o (ipI op)) (hN : X.N.Nodup) (hi : X.N[i]? = some x) (hx : Loc X.env.scope x) (hf : X.fn x = true ∨ X.env.scope.names.lookup x = some .local) (hg : XP X io eg g) :
    XS X io (.AugAssign (.Name x tpos) o eg pos) (augN io i g op) := ps_weak (ps_aug hN hi hx hg hp hf) fun _ _ _ h => augN_open h
end

/-! ### values that are kept as they are: own lists wait -/
def PendL (H0 : Hp) (pd : List (OV × V × List Addr)) : List (OV × V × List Addr) → Prop
  | [] => True
  | t :: l => (∀ a ∈ t.2.2, H0 a = none ∧ (∀ p ∈ pd, a ∉ p.2.2) ∧ ∀ p ∈ l, a ∉ p.2.2) ∧ PendL H0 pd l
abbrev FO' := T → Res (List OV × T)
def rdL (K : PySem.W.Frag) (io : List Nat) (h : FO') : TA := fun σ H Q => ∃ C F fp τ rs τ', C.ios.map (·.1) = io ∧ Rel K C F fp τ σ H ∧ h τ = .ok (rs, τ') ∧
  ∀ F' fp' H' l, Rel K (C.pendTo (l ++ C.pend)) F' fp' τ' σ H' → Same F F' → PendL C.H0 C.pend l → l.map (·.1) = rs → Q (l.map (·.2.1)) H'
def XL (X : Cx) (io : List Nat) (es : List Expr) (h : FO') : Prop := PA X es (rdL X.K io h)
def nilL : FO' := fun τ => .ok ([], τ)
def consL (io : List Nat) (own : Bool) (f : FP) (h : FO') : FO' := fun τ => (f τ).bind fun (p, τ1) => (take io own p τ1).bind fun (r, τ2) => (h τ2).bind fun (rs, τ3) => .ok (r :: rs, τ3)
section
variable {X : Cx} {io : List Nat} {pos : Pos} {f : FP}
theorem xl_nil : XL X io [] nilL := pa_weak pa_nil fun σ H Q ⟨C, F, fp, τ, rs, τ', hio, R, e, q⟩ => by
  cases e
  exact q F fp H [] R (Same.refl _) trivial rfl
theorem PendL.weak {H0 : Hp} {pd pd' : List (OV × V × List Addr)} (h : ∀ t ∈ pd', t ∈ pd) : ∀ {l : List (OV × V × List Addr)}, PendL H0 pd l → PendL H0 pd' l
  | [], _ => trivial
  | t :: l, q => ⟨fun a ha => ⟨(q.1 a ha).1, fun p hp => (q.1 a ha).2.1 p (h p hp), (q.1 a ha).2.2⟩, PendL.weak h q.2⟩
theorem PendL.out {H0 : Hp} {pd : List (OV × V × List Addr)} {t : OV × V × List Addr} (ht : t ∈ pd) : ∀ {l : List (OV × V × List Addr)}, PendL H0 pd l → ∀ p ∈ l, ∀ a ∈ t.2.2, a ∉ p.2.2
  | [], _, p, hp, _, _ => absurd hp (by simp)
  | u :: l, q, p, hp, a, ha => by
    rcases List.mem_cons.mp hp with rfl | hp
    · exact fun z => (q.1 a z).2.1 t ht ha
    · exact PendL.out ht q.2 p hp a ha
theorem xl_cons {e : Expr} {es : List Expr} {own : Bool} {h : FO'} (hn : notStar e = true) (ha : XP X io e f) (hr : XL X io es h) : XL X io (e :: es) (consL io own f h) := by
  refine pa_weak (pa_cons ha hr (star_cons hn)) fun σ H Q hh => ?_
  obtain ⟨C, F, fp, τ, ps, τ', hio, R, e, q⟩ := hh
  obtain ⟨⟨p1, τ1⟩, e1, e⟩ := Res.bind_ok e
  obtain ⟨⟨r, τ2⟩, e2, e⟩ := Res.bind_ok e
  obtain ⟨⟨qs, τ3⟩, e3, e⟩ := Res.bind_ok e
  cases e
  refine ⟨C, F, fp, τ, p1, τ1, hio, R, e1, fun F1 fp1 H1 v R1 s1 w1 => ?_⟩
  obtain ⟨F2, fp2, as, R2, s2, t⟩ := R1.take hio w1 e2
  have RP := Rel.addPend (C := C) (l := C.pend) R2 t
  refine ⟨C.pendTo ((r, v, as) :: C.pend), F2, fp2, τ2, qs, _, hio, RP, e3, fun F3 fp3 H3 l R3 s3 pl el => ?_⟩
  have hd := pl.out (t := (r, v, as)) List.mem_cons_self
  refine q F3 fp3 H3 ((r, v, as) :: l) ?_ ((s1.trans s2).trans s3) ⟨fun a ha => ⟨(t.new a ha).2, fun p hp => t.free a ha p hp, fun p hp => hd p hp a ha⟩, pl.weak fun p hp => List.mem_cons_of_mem _ hp⟩ (by rw [List.map_cons, el])
  exact Rel.repend (C := C) R3 fun p hp => R3.pend p (by
    show p ∈ l ++ (r, v, as) :: C.pend
    rcases List.mem_cons.mp hp with rfl | hp
    · exact List.mem_append_right _ List.mem_cons_self
    · rcases List.mem_append.mp hp with hp | hp
      · exact List.mem_append_left _ hp
      · exact List.mem_append_right _ (List.mem_cons_of_mem _ hp))
/-- several slots one behind another -/
def putL (io : List Nat) : List Nat → List OV → T → Res T
  | [], [], τ => .ok τ
  | i :: is, r :: rs, τ => (putS io i r τ).bind fun τ1 => putL io is rs τ1
  | _, _, _ => .bad
def setL (σ : L2.St) : List Nat → List V → L2.St
  | i :: is, v :: vs => setL (σ.set i (some v)) is vs
  | _, _ => σ
theorem Rel.putL {K : PySem.W.Frag} {C : Fx} (hio : C.ios.map (·.1) = io) : ∀ {is : List Nat} {l : List (OV × V × List Addr)} {F : Hp} {fp : Nat → List Addr} {τ τ' : T} {σ : L2.St} {H : Hp}, Rel K (C.pendTo (l ++ C.pend)) F fp τ σ H → PendL C.H0 C.pend l → Pf.putL io is (l.map (·.1)) τ = .ok τ' →
    is.length = l.length ∧ ∃ fp', Rel K C F fp' τ' (setL σ is (l.map (·.2.1))) H
  | [], [], F, fp, τ, τ', σ, H, R, _, e => by
    cases e
    exact ⟨rfl, fp, R⟩
  | [], _ :: _, _, _, _, _, _, _, _, _, e => by cases e
  | _ :: _, [], _, _, _, _, _, _, _, _, e => by cases e
  | i :: is, t :: l, F, fp, τ, τ', σ, H, R, pl, e => by
    obtain ⟨τ1, e1, e2⟩ := Res.bind_ok e
    have tm := Rel.unPend (C := C) (l := l ++ C.pend) R (fun a ha => (pl.1 a ha).1) fun a ha p hp => by
      rcases List.mem_append.mp hp with hp | hp
      · exact (pl.1 a ha).2.2 p hp
      · exact (pl.1 a ha).2.1 p hp
    have R1 := Rel.put (C := C.pendTo (l ++ C.pend)) hio R.dropPend tm e1
    obtain ⟨hl, fp2, R2⟩ := Rel.putL hio R1 pl.2 e2
    exact ⟨by rw [List.length_cons, List.length_cons, hl], fp2, R2⟩
/-- a, b = e1, e2: all worked out, then stored -/
def parS (io : List Nat) (is : List Nat) (h : FO') : FS := fun τ => (h τ).bind fun (rs, τ1) => (putL io is rs τ1).bind fun τ2 => .ok (.nx, τ2)
theorem par_open {is : List Nat} {h : FO'} {D : Ends} {σ : L2.St} {H : Hp} (w : rdS X.K io (parS io is h) D σ H) : rdL X.K io h σ H fun vs H1 => vs.length = is.length ∧ D.nx (setL σ is vs) H1 := by
  obtain ⟨C, F, fp, τ, fl, τ', hio, R, e, q⟩ := w
  obtain ⟨⟨rs, τ1⟩, e1, e⟩ := Res.bind_ok e
  obtain ⟨τ2, e2, e⟩ := Res.bind_ok e
  cases e
  refine ⟨C, F, fp, τ, rs, τ1, hio, R, e1, fun F1 fp1 H1 l R1 s1 pl el => ?_⟩
  subst el
  obtain ⟨hl, fp2, R2⟩ := Rel.putL hio R1 pl e2
  exact ⟨by rw [List.length_map, hl], q F1 fp2 _ H1 R2 s1⟩
/-- what swappedStores says, told by the scope -/
def isStar : Expr → Bool
  | .Starred _ _ => true
  | _ => false
def swN (sc : Scope) (line : Nat) : List Expr → List Str
  | [] => []
  | .Name id pos :: ts => if sc.names.lookup id == some .local && pos.line == line then id :: swN sc line ts else swN sc line ts
  | _ :: ts => swN sc line ts
def swC (sc : Scope) (ts vs : List Expr) : Option (List Str) :=
  if (!(ts.length == 2 || ts.length == 3) || vs.length != ts.length) = true then none else
  if vs.any isStar = true then none else
  if ((swN sc ((ts.head?.map (·.pos.line)).getD 0) ts).length != ts.length || (swN sc ((ts.head?.map (·.pos.line)).getD 0) ts).eraseDups.length != (swN sc ((ts.head?.map (·.pos.line)).getD 0) ts).length) = true then none else
  if vs.all (foldedForSure 8) = true then none else some (swN sc ((ts.head?.map (·.pos.line)).getD 0) ts)
theorem swN_eq {env : Env} {line : Nat} : ∀ ts : List Expr, (ts.filterMap fun | .Name id pos => if env.kindOf id == some .local && pos.line == line then some id else none | _ => none) = swN env.scope line ts
  | [] => rfl
  | t :: ts => by
    have ih := swN_eq (env := env) (line := line) ts
    cases t with
    | Name id pos =>
      rw [List.filterMap_cons, swN]
      have hk : env.kindOf id = env.scope.names.lookup id := rfl
      simp only [hk]
      by_cases h : (env.scope.names.lookup id == some .local && pos.line == line) = true
      · simp only [h, if_true, ← ih]
      · simp only [h, if_false, ← ih, Bool.false_eq_true]
    | _ => exact ih
theorem swapped_by {env : Env} {ts vs : List Expr} {kt k2 : Nat} {pt pt2 : Pos} (hk : env.scope.kind = .function) (hca : (!(vs.all (constantsAlone 8)) || vs.all (foldedForSure 8)) = true) : swappedStores [.Tuple ts kt pt] (.Tuple vs k2 pt2) env = pure (swC env.scope ts vs) := by
  have hb : env.blockKind = .function := by unfold Env.blockKind; rw [hk]; rfl
  unfold swappedStores swC
  simp only [hb]
  generalize hv : List.any vs _ = b2
  have hv2 : b2 = vs.any isStar := by
    rw [← hv]
    congr 1
  rw [← hv2]
  generalize hn : List.filterMap _ ts = names
  have hn2 : names = swN env.scope ((ts.head?.map (·.pos.line)).getD 0) ts := by
    rw [← hn]
    exact swN_eq ts
  rw [← hn2]
  have hbb : (ScopeKind.function != ScopeKind.function) = false := by decide
  by_cases h1 : (!(ts.length == 2 || ts.length == 3) || vs.length != ts.length) = true
  · simp only [h1, Bool.true_or, if_true]
  · have h1' : (!(ts.length == 2 || ts.length == 3) || vs.length != ts.length) = false := by simpa using h1
    by_cases h2 : b2 = true
    · simp only [h1', h2, Bool.false_or, hbb, Bool.false_eq_true, if_false, if_true]
    · have h2' : b2 = false := by simpa using h2
      by_cases h3 : (names.length != ts.length || names.eraseDups.length != names.length) = true
      · simp only [h1', h2', h3, Bool.false_or, hbb, Bool.false_eq_true, if_false, if_true]
      · have h3' : (names.length != ts.length || names.eraseDups.length != names.length) = false := by simpa using h3
        by_cases h4 : vs.all (foldedForSure 8) = true
        · simp only [h1', h2', h3', h4, Bool.false_or, hbb, Bool.false_eq_true, if_false, if_true]
        · have h4' : vs.all (foldedForSure 8) = false := by simpa using h4
          have h5 : vs.all (constantsAlone 8) = false := by
            rw [h4', Bool.or_false] at hca
            simpa using hca
          simp only [h1', h2', h3', h4', h5, Bool.false_or, hbb, Bool.false_eq_true, if_false, if_true]
end
end Pf

/-! Pf11: the rules by a context's card, side conditions as truths; the head. -/
namespace Pf
open PySem PySem.Spec PyProof.Rows L2

def visB (sc : Scope) (x : Str) : Bool := match sc.names.lookup x with
  | some .local => true
  | some .cell => true
  | some .free => true
  | _ => false
theorem visB_ok {sc : Scope} {x : Str} (h : visB sc x = true) : Vis sc x := by
  unfold visB at h
  split at h
  · exact .inl (by assumption)
  · exact .inr (.inl (by assumption))
  · exact .inr (.inr (by assumption))
  · cases h
def slotC (N : List Str) (sc : Scope) (i : Nat) (x : Str) : Bool := decide (N[i]? = some x) && (visB sc x && (!(x == ("__debug__" : Str)) && !(x == ("__classdict__" : Str))))
def locC (N : List Str) (sc : Scope) (fb : Str → Bool) (i : Nat) (x : Str) : Bool := decide (N[i]? = some x) && ((sc.names.lookup x == some .local) || ((sc.names.lookup x == some .cell) && fb x))
def gloC (sc : Scope) (x : Str) : Bool := (sc.names.lookup x == some .globalImplicit) && !(x == ("__debug__" : Str))
def freeC (sc : Scope) (x : Str) : Bool := gloC sc x && !(x == ("__name__" : Str))
def Cd.blk (c : Cd) (scope : Scope) : Cd := { c with sc := relS scope c.sc, fb := fun x => scope.names.lookup x == some .cell }
theorem beq_no {x y : Str} (h : (x == y) = false) : x ≠ y := fun e => by subst e; simp at h
section
variable {X : Cx} {c : Cd} {k : Nat} {io : List Nat} {pos : Pos} {a b e : Expr} {f g fc : FP}
theorem Bd.units (B : Bd X c k) : X.A.units + 65 < cLine := by have := B.room.un; omega
theorem Bd.blk (B : Bd X c k) (s : Shared) (H : Hp) (scope : Scope) (cl : List (Str × Addr)) (C : Addr) (fp : List Addr) : Bd (X.blk s H scope (compEnvC scope cl C X.env) fp) (c.blk scope) k :=
  ⟨B.prog, B.w, B.K, B.mg, B.base, B.N, by show relS scope X.env.scope = relS scope c.sc; rw [B.sc], rfl, B.calm, B.guards, B.room, rfl, B.nd⟩
theorem Bd.down (B : Bd X c k) {j : Nat} (h : j ≤ k) : Bd X c j := ⟨B.prog, B.w, B.K, B.mg, B.base, B.N, B.sc, B.fb, B.calm, B.guards, B.room.mono h, B.nox, B.nd⟩
theorem Bd.vis (B : Bd X c k) {x : Str} (h : visB c.sc x = true) : Vis X.env.scope x := by rw [B.sc]; exact visB_ok h
theorem Bd.slot (B : Bd X c k) {i : Nat} {x : Str} (h : slotC c.N c.sc i x = true) : XP X io (.Name x pos) (eSlot i) := by
  unfold slotC at h
  simp only [Bool.and_eq_true, decide_eq_true_eq, Bool.not_eq_true'] at h
  exact xp_slot (by rw [B.N]; exact h.1) (B.vis h.2.1) h.2.2.1 h.2.2.2
theorem Bd.locs (B : Bd X c k) {i : Nat} {x : Str} (h : locC c.N c.sc c.fb i x = true) : X.N.Nodup ∧ X.N[i]? = some x ∧ Loc X.env.scope x ∧ (X.fn x = true ∨ X.env.scope.names.lookup x = some .local) := by
  unfold locC at h
  simp only [Bool.and_eq_true, decide_eq_true_eq, Bool.or_eq_true, beq_iff_eq] at h
  obtain ⟨h1, h2⟩ := h
  refine ⟨by rw [B.N]; exact B.nd, by rw [B.N]; exact h1, ?_, ?_⟩
  · rw [B.sc]
    exact h2.imp id fun z => z.1
  · rw [B.sc, B.fb]
    exact h2.elim .inr fun z => .inl z.2
theorem Bd.glo (B : Bd X c k) {x : Str} (h : gloC c.sc x = true) : Gl X x ∧ (x == ("__debug__" : Str)) = false := by
  unfold gloC at h
  simp only [Bool.and_eq_true, beq_iff_eq, Bool.not_eq_true'] at h
  exact ⟨by show X.env.scope.names.lookup x = _; rw [B.sc]; exact h.1, h.2⟩
theorem Bd.bltn (B : Bd X c k) {x : Str} {v : Value} (h : freeC c.sc x = true) (hm : c.mg x = none) (hv : bootBuiltins x = some v) : Bltn X x v := by
  unfold freeC at h
  rw [Bool.and_eq_true] at h
  obtain ⟨g1, g2⟩ := B.glo h.1
  refine ⟨g1, by rw [B.mg]; exact hm, hv, ?_, g2⟩
  exact beq_no (by simpa using h.2)
theorem Bd.call (B : Bd X c k) {j n : Nat} {x : Str} {l : Option Nat} {fn : FV} {h : FA} {es : List Expr} {p : Pos} (cl : Cal c j x n l fn) (hj : j ≤ k) (hg : gloC c.sc x = true) (hn : (e :: es).all notStar = true) (ha : XA X io (e :: es) h) :
    XP X io (.Call (.Name x p) (e :: es) [] pos) (callF n l fn h) := xp_call B cl hj (B.glo hg).1 (B.glo hg).2 hn ha
theorem Bd.call0 (B : Bd X c k) {j n : Nat} {x : Str} {l : Option Nat} {fn : FV} {p : Pos} (cl : Cal c j x n l fn) (hj : j ≤ k) (hg : gloC c.sc x = true) : XP X io (.Call (.Name x p) [] [] pos) (callF n l fn nilA) := xp_call0 B cl hj (B.glo hg).1 (B.glo hg).2
theorem Cal.blk {j n : Nat} {x : Str} {l : Option Nat} {fn : FV} (cl : Cal c j x n l fn) (scope : Scope) : Cal (c.blk scope) j x n l fn := ⟨cl.ex⟩
theorem Cal.up {i j n : Nat} {x : Str} {l : Option Nat} {fn : FV} (cl : Cal c i x n l fn) (h : i ≤ j) : Cal c j x n l fn := by
  obtain ⟨f, fd, ps, G, q⟩ := cl.ex
  exact ⟨f, fd, ps, G.up h, q⟩
/-! operators -/
theorem Bd.eq (B : Bd X c k) (ha : XP X io a f) (hb : XP X io b g) : XP X io (.Compare a [.Eq] [b] pos) (two f g eqS) := xp_cmp (os_eq B.units) (nomark b) ha hb
theorem Bd.ne (B : Bd X c k) (ha : XP X io a f) (hb : XP X io b g) : XP X io (.Compare a [.NotEq] [b] pos) (two f g neS) := xp_cmp (os_ne B.units) (nomark b) ha hb
theorem Bd.lt (B : Bd X c k) (ha : XP X io a f) (hb : XP X io b g) : XP X io (.Compare a [.Lt] [b] pos) (two f g ltS) := xp_cmp (os_lt B.units) (nomark b) ha hb
theorem Bd.gt (B : Bd X c k) (ha : XP X io a f) (hb : XP X io b g) : XP X io (.Compare a [.Gt] [b] pos) (two f g gtS) := xp_cmp (os_gt B.units) (nomark b) ha hb
theorem Bd.le (B : Bd X c k) (ha : XP X io a f) (hb : XP X io b g) : XP X io (.Compare a [.LtE] [b] pos) (two f g leS) := xp_cmp (os_le B.units) (nomark b) ha hb
theorem Bd.ge (B : Bd X c k) (ha : XP X io a f) (hb : XP X io b g) : XP X io (.Compare a [.GtE] [b] pos) (two f g geS) := xp_cmp (os_ge B.units) (nomark b) ha hb
theorem Bd.is (B : Bd X c k) (ha : XP X io a f) (hb : XP X io b g) : XP X io (.Compare a [.Is] [b] pos) (two f g isS) := xp_cmp os_is (nomark b) ha hb
theorem Bd.isnot (B : Bd X c k) (ha : XP X io a f) (hb : XP X io b g) : XP X io (.Compare a [.IsNot] [b] pos) (two f g isnotS) := xp_cmp os_isnot (nomark b) ha hb
theorem Bd.mem (B : Bd X c k) (hm : behindInMarks .In b = false) (ha : XP X io a f) (hb : XP X io b g) : XP X io (.Compare a [.In] [b] pos) (two f g (memS false)) := xp_cmp (os_mem B.units false) hm ha hb
theorem Bd.nmem (B : Bd X c k) (hm : behindInMarks .NotIn b = false) (ha : XP X io a f) (hb : XP X io b g) : XP X io (.Compare a [.NotIn] [b] pos) (two f g (memS true)) := xp_cmp (os_mem B.units true) hm ha hb
theorem gd_bl {b c : Bool} {r : OV} (h : gd b (.fz (.bl c)) = .ok r) : ∃ d, r = .fz (.bl d) := by
  obtain ⟨_, e⟩ := gd_ok h
  exact ⟨_, e.symm⟩
theorem memS_bl {n : Bool} (x y r : OV) (h : memS n x y = .ok r) : ∃ d, r = .fz (.bl d) := by
  unfold memS at h
  split at h
  · cases h; exact ⟨_, rfl⟩
  · split at h
    · exact gd_bl h
    · cases h
theorem Bd.teq (B : Bd X c k) (ha : XP X io a f) (hb : XP X io b g) : XT X io (.Compare a [.Eq] [b] pos) (tru (two f g eqS)) := xt_cmp (os_eq B.units) (fun _ _ _ h => gd_bl h) (nomark b) ha hb
theorem Bd.tne (B : Bd X c k) (ha : XP X io a f) (hb : XP X io b g) : XT X io (.Compare a [.NotEq] [b] pos) (tru (two f g neS)) := xt_cmp (os_ne B.units) (fun _ _ _ h => gd_bl h) (nomark b) ha hb
theorem Bd.tlt (B : Bd X c k) (ha : XP X io a f) (hb : XP X io b g) : XT X io (.Compare a [.Lt] [b] pos) (tru (two f g ltS)) := xt_cmp (os_lt B.units) (fun _ _ _ h => gd_bl h) (nomark b) ha hb
theorem Bd.tgt (B : Bd X c k) (ha : XP X io a f) (hb : XP X io b g) : XT X io (.Compare a [.Gt] [b] pos) (tru (two f g gtS)) := xt_cmp (os_gt B.units) (fun _ _ _ h => gd_bl h) (nomark b) ha hb
theorem Bd.tle (B : Bd X c k) (ha : XP X io a f) (hb : XP X io b g) : XT X io (.Compare a [.LtE] [b] pos) (tru (two f g leS)) := xt_cmp (os_le B.units) (fun _ _ _ h => gd_bl h) (nomark b) ha hb
theorem Bd.tge (B : Bd X c k) (ha : XP X io a f) (hb : XP X io b g) : XT X io (.Compare a [.GtE] [b] pos) (tru (two f g geS)) := xt_cmp (os_ge B.units) (fun _ _ _ h => gd_bl h) (nomark b) ha hb
theorem Bd.tis (B : Bd X c k) (ha : XP X io a f) (hb : XP X io b g) : XT X io (.Compare a [.Is] [b] pos) (tru (two f g isS)) := xt_cmp os_is (fun _ _ _ h => gd_bl h) (nomark b) ha hb
theorem Bd.tisnot (B : Bd X c k) (ha : XP X io a f) (hb : XP X io b g) : XT X io (.Compare a [.IsNot] [b] pos) (tru (two f g isnotS)) := xt_cmp os_isnot (fun _ _ _ h => gd_bl h) (nomark b) ha hb
theorem Bd.tmem (B : Bd X c k) (hm : behindInMarks .In b = false) (ha : XP X io a f) (hb : XP X io b g) : XT X io (.Compare a [.In] [b] pos) (tru (two f g (memS false))) := xt_cmp (os_mem B.units false) memS_bl hm ha hb
theorem Bd.tnmem (B : Bd X c k) (hm : behindInMarks .NotIn b = false) (ha : XP X io a f) (hb : XP X io b g) : XT X io (.Compare a [.NotIn] [b] pos) (tru (two f g (memS true))) := xt_cmp (os_mem B.units true) memS_bl hm ha hb
/-! what is called -/
section
variable {p : Pos} {es : List Expr} {h : FA} (B : Bd X c k)
include B
theorem Bd.len (hg : freeC c.sc "len" = true) (hm : c.mg "len" = none) (hs : (e :: es).all notStar = true) (ha : XA X io (e :: es) h) : XP X io (.Call (.Name "len" p) (e :: es) [] pos) (biF h lenS) := xp_callB (B.bltn hg hm rfl) cs_len hs ha
theorem Bd.int (hg : freeC c.sc "int" = true) (hm : c.mg "int" = none) (hs : (e :: es).all notStar = true) (ha : XA X io (e :: es) h) : XP X io (.Call (.Name "int" p) (e :: es) [] pos) (biF h intS) := xp_callTy (B.bltn hg hm rfl) cs_int hs ha
theorem Bd.abs (hg : freeC c.sc "abs" = true) (hm : c.mg "abs" = none) (hs : (e :: es).all notStar = true) (ha : XA X io (e :: es) h) : XP X io (.Call (.Name "abs" p) (e :: es) [] pos) (biF h absS) := xp_callB (B.bltn hg hm rfl) cs_abs hs ha
theorem Bd.max (hg : freeC c.sc "max" = true) (hm : c.mg "max" = none) (hs : (e :: es).all notStar = true) (ha : XA X io (e :: es) h) : XP X io (.Call (.Name "max" p) (e :: es) [] pos) (biF h maxS) := xp_callB (B.bltn hg hm rfl) (cs_max B.calm) hs ha
theorem Bd.min (hg : freeC c.sc "min" = true) (hm : c.mg "min" = none) (hs : (e :: es).all notStar = true) (ha : XA X io (e :: es) h) : XP X io (.Call (.Name "min" p) (e :: es) [] pos) (biF h minS) := xp_callB (B.bltn hg hm rfl) (cs_min B.calm) hs ha
theorem Bd.sum (hg : freeC c.sc "sum" = true) (hm : c.mg "sum" = none) (hs : (e :: es).all notStar = true) (ha : XA X io (e :: es) h) : XP X io (.Call (.Name "sum" p) (e :: es) [] pos) (biF h sumS) := xp_callB (B.bltn hg hm rfl) (cs_sum B.calm) hs ha
theorem Bd.all (hg : freeC c.sc "all" = true) (hm : c.mg "all" = none) (hs : (e :: es).all notStar = true) (ha : XA X io (e :: es) h) : XP X io (.Call (.Name "all" p) (e :: es) [] pos) (biF h (allS true)) := xp_callB (B.bltn hg hm rfl) (cs_all B.calm true) hs ha
theorem Bd.any (hg : freeC c.sc "any" = true) (hm : c.mg "any" = none) (hs : (e :: es).all notStar = true) (ha : XA X io (e :: es) h) : XP X io (.Call (.Name "any" p) (e :: es) [] pos) (biF h (allS false)) := xp_callB (B.bltn hg hm rfl) (cs_all B.calm false) hs ha
theorem Bd.tuple (hg : freeC c.sc "tuple" = true) (hm : c.mg "tuple" = none) (hs : (e :: es).all notStar = true) (ha : XA X io (e :: es) h) : XP X io (.Call (.Name "tuple" p) (e :: es) [] pos) (biF h tupS) := xp_callTy (B.bltn hg hm rfl) cs_tuple hs ha
theorem Bd.list (hg : freeC c.sc "list" = true) (hm : c.mg "list" = none) (hs : (e :: es).all notStar = true) (ha : XA X io (e :: es) h) : XP X io (.Call (.Name "list" p) (e :: es) [] pos) (biF h lstS) := xp_callTy (B.bltn hg hm rfl) cs_list hs ha
theorem Bd.repr (hg : freeC c.sc "repr" = true) (hm : c.mg "repr" = none) (hs : (e :: es).all notStar = true) (ha : XA X io (e :: es) h) : XP X io (.Call (.Name "repr" p) (e :: es) [] pos) (biF h reprS) := xp_callB (B.bltn hg hm rfl) (cs_repr B.units B.guards) hs ha
theorem Bd.range1 {tg a : Expr} (hg : gloC c.sc "range" = true) (hm : c.mg "range" = none) (hn : [a].all notStar = true) (ha : XA X io [a] h) : XI X io tg (.Call (.Name "range" p) [a] [] pos) (rngF range1S h) := xi_range1 (B.glo hg).1 (by rw [B.mg]; exact hm) hn ha
theorem Bd.range2 {tg a b : Expr} (hg : gloC c.sc "range" = true) (hm : c.mg "range" = none) (hn : [a, b].all notStar = true) (ha : XA X io [a, b] h) : XI X io tg (.Call (.Name "range" p) [a, b] [] pos) (rngF range2S h) := xi_range2 (B.glo hg).1 (by rw [B.mg]; exact hm) hn ha
theorem Bd.range3 {tg a b d : Expr} (hg : gloC c.sc "range" = true) (hm : c.mg "range" = none) (hn : [a, b, d].all notStar = true) (ha : XA X io [a, b, d] h) : XI X io tg (.Call (.Name "range" p) [a, b, d] [] pos) (rngF range3S h) := xi_range3 (B.glo hg).1 (by rw [B.mg]; exact hm) hn ha
theorem Bd.enum {a : Expr} {tpos : Pos} {elts : List Expr} {kk : Nat} (hg : gloC c.sc "enumerate" = true) (hm : c.mg "enumerate" = none) (hn : [a].all notStar = true) (ha : XA X io [a] h) :
    XI X io (.Tuple elts kk tpos) (.Call (.Name "enumerate" p) [a] [] pos) (rngF (datL (enumL 0)) h) := xi_enum (B.glo hg).1 (by rw [B.mg]; exact hm) hn ha
theorem Bd.zip {a b : Expr} {tpos : Pos} {elts : List Expr} {kk : Nat} (hg : gloC c.sc "zip" = true) (hm : c.mg "zip" = none) (hn : [a, b].all notStar = true) (ha : XA X io [a, b] h) :
    XI X io (.Tuple elts kk tpos) (.Call (.Name "zip" p) [a, b] [] pos) (rngF zip2S h) := xi_zip (B.glo hg).1 (by rw [B.mg]; exact hm) hn ha
end
/-! statements -/
theorem Bd.set (B : Bd X c k) {i : Nat} {x : Str} {p' : Pos} {own : Bool} (h : locC c.N c.sc c.fb i x = true) (hc : isComp e = false) (ha : XP X io e f) : XS X io (.Assign [.Name x p'] e pos) (setS io i own f) :=
  let ⟨h1, h2, h3, h4⟩ := B.locs h
  xs_set h1 h2 h3 h4 (swaps_no hc) ha
theorem Bd.gname (B : Bd X c k) {i : Nat} {x : Str} (h : locC c.N c.sc c.fb i x = true) : XG X io [i] (.Name x pos) (nameG io i) :=
  let ⟨h1, h2, h3, h4⟩ := B.locs h
  xg_name h1 h2 h3 h4
theorem Bd.gtup (B : Bd X c k) {es : List Expr} {kk : Nat} {h : FGs} {vs : List Nat} (hn : es.all notStar = true) (hs : XGs X io vs es h) : XG X io vs (.Tuple es kk pos) (tupG es.length h) := xg_tup B.calm hn hs
theorem Bd.while_ (B : Bd X c k) {body : List Stmt} {g : FS} (hc : XT X io e (tru fc)) (hb : XB X io body g) : XS X io (.While e body [] pos) (whlS fc g) := xs_while (by rw [B.nox]; exact PassesOwn.never) hc hb
theorem Bd.for_ (B : Bd X c k) {tg iter : Expr} {body : List Stmt} {hi : FI} {gt : FG} {g : FS} {vs : List Nat} (hs : ∀ x, foldedSetIterable iter X.env x = pure x) (h1 : XI X io tg iter hi) (h2 : XG X io vs tg gt) (h3 : XB X io body g) :
    XS X io (.For tg iter body [] pos) (forS hi gt g) := xs_for (by rw [B.nox]; exact PassesOwn.never) B.calm hs h1 h2 h3
theorem Bd.augN (B : Bd X c k) {i : Nat} {x : Str} {tpos : Pos} {eg : Expr} {o : Operator} {op : Int → Int → Int} (hp : PIp X o (ipI op)) (h : locC c.N c.sc c.fb i x = true) (hg : XP X io eg g) : XS X io (.AugAssign (.Name x tpos) o eg pos) (augN io i g op) :=
  let ⟨h1, h2, h3, h4⟩ := B.locs h
  xs_augN hp h1 h2 h3 h4 hg
/-- a, b = e1, e2 -/
theorem Bd.par2 (B : Bd X c k) {i j : Nat} {x y : Str} {px py pt pt2 : Pos} {kt k2 : Nat} {h : FO'} (hk : c.sc.kind = .function) (hi : decide (c.N[i]? = some x) = true) (hj : decide (c.N[j]? = some y) = true) (hij : decide (i ≠ j) = true)
    (hx : (c.sc.names.lookup x == some .local) = true) (hy : (c.sc.names.lookup y == some .local) = true) (hw : swC c.sc [.Name x px, .Name y py] [a, b] = some [x, y]) (hca : (!([a, b].all (constantsAlone 8)) || [a, b].all (foldedForSure 8)) = true) (ha : XL X io [a, b] h) :
    XS X io (.Assign [.Tuple [.Name x px, .Name y py] kt pt] (.Tuple [a, b] k2 pt2) pos) (parS io [i, j] h) := by
  have hN := B.N
  have hsc := B.sc
  refine ps_weak (ps_par B.calm (by rw [hN]; exact B.nd) (by rw [hN]; exact of_decide_eq_true hi) (by rw [hN]; exact of_decide_eq_true hj) (of_decide_eq_true hij) (by rw [hsc]; simpa using hx) (by rw [hsc]; simpa using hy) ha ?_ rfl) fun D σ H w => ?_
  · rw [swapped_by (by rw [hsc]; exact hk) hca, hsc, hw]
  · obtain ⟨C, F, fp, τ, rs, τ', hio, R, e, q⟩ := par_open w
    refine ⟨C, F, fp, τ, rs, τ', hio, R, e, fun F1 fp1 H1 l R1 s1 pl el => ?_⟩
    obtain ⟨hl, q2⟩ := q F1 fp1 H1 l R1 s1 pl el
    match l, hl, q2 with
    | [t, u], _, q2 => exact ⟨_, _, rfl, q2⟩
theorem Bd.par3 (B : Bd X c k) {i j l : Nat} {x y z : Str} {d : Expr} {px py pz pt pt2 : Pos} {kt k2 : Nat} {h : FO'} (hk : c.sc.kind = .function) (hi : decide (c.N[i]? = some x) = true) (hj : decide (c.N[j]? = some y) = true) (hl : decide (c.N[l]? = some z) = true) (hij : decide (i ≠ j ∧ i ≠ l ∧ j ≠ l) = true)
    (hx : (c.sc.names.lookup x == some .local) = true) (hy : (c.sc.names.lookup y == some .local) = true) (hz : (c.sc.names.lookup z == some .local) = true) (hw : swC c.sc [.Name x px, .Name y py, .Name z pz] [a, b, d] = some [x, y, z]) (hca : (!([a, b, d].all (constantsAlone 8)) || [a, b, d].all (foldedForSure 8)) = true) (ha : XL X io [a, b, d] h) :
    XS X io (.Assign [.Tuple [.Name x px, .Name y py, .Name z pz] kt pt] (.Tuple [a, b, d] k2 pt2) pos) (parS io [i, j, l] h) := by
  have hN := B.N
  have hsc := B.sc
  obtain ⟨n1, n2, n3⟩ := of_decide_eq_true hij
  refine ps_weak (ps_par3 B.calm (by rw [hN]; exact B.nd) (by rw [hN]; exact of_decide_eq_true hi) (by rw [hN]; exact of_decide_eq_true hj) (by rw [hN]; exact of_decide_eq_true hl) n1 n2 n3 (by rw [hsc]; simpa using hx) (by rw [hsc]; simpa using hy) (by rw [hsc]; simpa using hz) ha ?_ rfl) fun D σ H w => ?_
  · rw [swapped_by (by rw [hsc]; exact hk) hca, hsc, hw]
  · obtain ⟨C, F, fp, τ, rs, τ', hio, R, e, q⟩ := par_open w
    refine ⟨C, F, fp, τ, rs, τ', hio, R, e, fun F1 fp1 H1 l R1 s1 pl el => ?_⟩
    obtain ⟨hl, q2⟩ := q F1 fp1 H1 l R1 s1 pl el
    match l, hl, q2 with
    | [t, u, w], _, q2 => exact ⟨_, _, _, rfl, q2⟩
/-- target = e, no display on both sides that is exchanged -/
theorem Bd.asg (B : Bd X c k) {t : Expr} {g : FG} {vs : List Nat} (hn : notStar t = true) (hc : isComp e = false) (ht' : isTuple e = false) (ht : XG X io vs t g) (ha : XP X io e f) : XS X io (.Assign [t] e pos) (asgS io g f) := xs_asg hn hc (swapped_no ht') ht ha
theorem Bd.asgT (B : Bd X c k) {ts es : List Expr} {kt k2 : Nat} {pt pt2 : Pos} {g : FG} {vs : List Nat} (hk : c.sc.kind = .function) (hw : swC c.sc ts es = none) (hca : (!(es.all (constantsAlone 8)) || es.all (foldedForSure 8)) = true) (ht : XG X io vs (.Tuple ts kt pt) g) (ha : XP X io (.Tuple es k2 pt2) f) :
    XS X io (.Assign [.Tuple ts kt pt] (.Tuple es k2 pt2) pos) (asgS io g f) := xs_asg rfl rfl (by rw [swapped_by (by rw [B.sc]; exact hk) hca, B.sc, hw]) ht ha
theorem Bd.st (B : Bd X c k) {eo ei : Expr} {tpos : Pos} {fo fi : FP} (hc : isComp e = false) (hw : isTuple e = false) (hx : noSlice ei = true) (he : XP X io e f) (ho : XP X io eo fo) (hi : XP X io ei fi) : XS X io (.Assign [.Subscript eo ei tpos] e pos) (stS io f fo fi) := xs_st hc (swapped_no hw) hx he ho hi
/-! comprehensions -/
theorem Bd.comp (B : Bd X c k) {elt tg iter : Expr} {ifs : List Expr} {scope : Scope} (own : List (Str × Nat)) {h : FI} {gt : FG} {cn : T → Res (Bool × T)} {ob : Bool} {vt : List Nat} (ok : blkC c.N c.sc scope own = true) (hv : vt.all (fun i => decide (i ∈ own.map (·.2))) = true)
    (hs : ∀ x, foldedSetIterable iter X.env x = pure x) (hi : XI X io tg iter h) (hb : ∀ X', Bd X' (c.blk scope) k → XG X' io vt tg gt ∧ XTs X' io ifs cn ∧ XP X' io elt f) : XP X io (.ListComp elt [⟨tg, iter, ifs, 0⟩] scope pos) (compF io (own.map (·.2)) ob h gt cn f) := by
  refine pe_weak (pe_lc (wi := rdI X.K io h) (g := rdG X.K io vt gt) (tt := rdT X.K io cn) (te := rdP X.K io f) B.calm (by rw [B.N]; exact B.nd) hi (blkOk_by (by rw [B.N, B.sc]; exact ok)) (fun s H C cl fp => (hb _ (B.blk s H scope cl C fp)).1) (fun s H C cl fp => (hb _ (B.blk s H scope cl C fp)).2.1) (fun s H C cl fp => (hb _ (B.blk s H scope cl C fp)).2.2) hs) fun σ H Q w => ?_
  exact comp_open (fun i z => of_decide_eq_true (List.all_eq_true.mp hv i z)) w
theorem Bd.setLc (B : Bd X c k) {i : Nat} {x : Str} {p' : Pos} {elt tg iter : Expr} {ifs : List Expr} {scope : Scope} {spos : Pos} (own : List (Str × Nat)) {h : FI} {gt : FG} {cn : T → Res (Bool × T)} {ob : Bool} {vt : List Nat} {oo : Bool} (hk : c.sc.kind = .function) (hx : decide (c.N[i]? = some x) = true) (hl : (c.sc.names.lookup x == some .local) = true) (hln : (p'.line == pos.line) = true)
    (hne : (scope.names.any fun (n, k) => n == x && (k == .local || k == .cell)) = false) (ok : blkC c.N c.sc scope own = true) (hv : vt.all (fun i => decide (i ∈ own.map (·.2))) = true)
    (hs : ∀ x, foldedSetIterable iter X.env x = pure x) (hi : XI X io tg iter h) (hb : ∀ X', Bd X' (c.blk scope) k → XG X' io vt tg gt ∧ XTs X' io ifs cn ∧ XP X' io elt f) : XS X io (.Assign [.Name x p'] (.ListComp elt [⟨tg, iter, ifs, 0⟩] scope pos) spos) (setS io i oo (compF io (own.map (·.2)) ob h gt cn f)) := by
  have hloc : X.env.scope.names.lookup x = some .local := by rw [B.sc]; simpa using hl
  refine ps_weak (ps_setLc (wi := rdI X.K io h) (g := rdG X.K io vt gt) (tt := rdT X.K io cn) (te := rdP X.K io f) B.calm (by rw [B.N]; exact B.nd) (by rw [B.N]; exact of_decide_eq_true hx) hloc (sw_true (by rw [B.sc]; exact hk) hloc hln hne) hi (blkOk_by (by rw [B.N, B.sc]; exact ok)) (fun s H C cl fp => (hb _ (B.blk s H scope cl C fp)).1) (fun s H C cl fp => (hb _ (B.blk s H scope cl C fp)).2.1) (fun s H C cl fp => (hb _ (B.blk s H scope cl C fp)).2.2) hs) fun D σ H w => ?_
  exact comp_open (fun i z => of_decide_eq_true (List.all_eq_true.mp hv i z)) (set_open w)
/-- name = [..] where the name is a cell, or stands on another line -/
theorem Bd.setLcN (B : Bd X c k) {i : Nat} {x : Str} {p' : Pos} {elt : Expr} {gs : List Comprehension} {scope : Scope} {spos : Pos} {oo : Bool} (h : locC c.N c.sc c.fb i x = true) (hn : ((c.sc.names.lookup x == some .local) && (p'.line == pos.line)) = false) (hk : c.sc.kind = .function) (ha : XP X io (.ListComp elt gs scope pos) f) :
    XS X io (.Assign [.Name x p'] (.ListComp elt gs scope pos) spos) (setS io i oo f) := by
  obtain ⟨h1, h2, h3, h4⟩ := B.locs h
  refine xs_set h1 h2 h3 h4 ?_ ha
  have hb : X.env.blockKind = .function := by unfold Env.blockKind; rw [B.sc, hk]; rfl
  have hkx : X.env.kindOf x = c.sc.names.lookup x := by show X.env.scope.names.lookup x = _; rw [B.sc]
  unfold swapsWith
  simp only [hb, hkx, Expr.pos]
  have e1 : ((ScopeKind.function == ScopeKind.function) && (c.sc.names.lookup x == some NameKind.local) && (p'.line == pos.line)) = false := by
    rw [Bool.and_assoc, hn, Bool.and_false]
  rw [e1]
  rfl
end
end Pf

/-! Pf12: the law's call at the top. -/
namespace Pf
open PySem PySem.Spec PyProof.Rows L2

theorem reps_ints {K : PySem.W.Frag} {F : Hp} : ∀ ns : List Int, Reps K F (ns.map D.int) (ns.map V.int)
  | [] => Reps.nil
  | n :: ns => Reps.cons (by rw [Rep]) (reps_ints ns)
def scriptD (ns : List Int) : OV := .fz (.lst (ns.map D.int))
/-- the script as the law's argument -/
theorem sp_script {K : PySem.W.Frag} {H : Hp} {a : Addr} {ns : List Int} {fn : FV} {o : OV} (hl : LsR K H a (ns.map V.int)) (h : fn [scriptD ns] = .ok (.fz (.bl true), o)) : spP K 1 none fn [.ref a] H (fun v _ => v = .bl true) E0 := by
  refine ⟨H, [scriptD ns], [], _, o, Same.refl _, fun _ z => absurd z (by simp), ?_, rfl, h, fun F' H' v bs cs P => ?_⟩
  · rw [ArgsR]
    exact ⟨[.lst (ns.map D.int)], rfl, Reps.cons (by rw [Rep]; exact ⟨a, _, rfl, hl, reps_ints ns⟩) Reps.nil, rfl⟩
  · have w := P.ans
    rw [Own.fz_iff] at w
    have w2 := w.2
    rw [Rep] at w2
    exact w2
theorem top_run {P : Program} {w : World} {K : PySem.W.Frag} {mg mb : Str → Option Value} {k : Nat} {fa a : Addr} {fd : FuncData} {x : Str} {fn : FV} {s₁ : Shared} {vs : List Value} {ns : List Int}
    (KX : K.In s₁.heap) (gm : s₁.heap.Ns mainGlobals mg) (gb : s₁.heap.Ns builtinsNs mb) (bb : ∀ x : Str, x ≠ "__name__" → mb x = bootBuiltins x) (nl : s₁.heap.NoLimit) (ng : s₁.gens = #[])
    (ha : s₁.heap.get? a = some { cls := .type "list", data := .seq vs.toArray }) (hi : IntsAre vs ns) (hl : ns.length ≤ sizeLine) (hr : Room k callerA)
    (G : ∀ base : Heap, K.In base → base.Ns mainGlobals mg → FnG P w K mg base k fa fd [x] (spP K 1 none fn)) (hb : ∀ (s : Shared) (u : Value), BindsTo s fd ⟨[u], []⟩ [(x, u)])
    (hf : ∃ o, fn [scriptD ns] = .ok (.fz (.bl true), o)) :
    codeAny (model P w) callerA (.call (.ref fa) ⟨[.ref a], []⟩) (fun r s' => r = .ok (.ret (.bool true)) ∧ OldK s₁.heap s'.heap ∧ s'.os = s₁.os ∧ AllBare s'.gens) s₁ := by
  obtain ⟨o, hf⟩ := hf
  have rv := vals_ints hi
  -- H: nothing but the script's list is tracked, and that one locked
  have main : ∀ H : Hp, (∀ b, H b = none ∨ b = a ∧ K.lookup a = none ∧ ∃ ob xs, H b = some (.frz ob (.lst xs))) → LsR K H a (ns.map V.int) → HOk P w H s₁.heap →
      codeAny (model P w) callerA (.call (.ref fa) ⟨[.ref a], []⟩) (fun r s' => r = .ok (.ret (.bool true)) ∧ OldK s₁.heap s'.heap ∧ s'.os = s₁.os ∧ AllBare s'.gens) s₁ := by
    intro H hH hL hok
    have dictFree : ∀ {b : Addr} {ob : Obj} {es : Array DictEntry} {ep : Nat}, s₁.heap.get? b = some ob → ob.data = .dict es ep → H b = none := fun {b ob es ep} e d => by
      rcases hH b with z | ⟨z, _⟩
      · exact z
      · subst z
        rw [ha] at e
        cases e
        exact absurd d (by simp)
    have ns' : ∀ {b : Addr} {m : Str → Option Value}, s₁.heap.Ns b m → (hidT s₁.heap H).Ns b m := fun {b m} q => by
      obtain ⟨ob, es, ep, e, d, r⟩ := q
      exact ⟨ob, es, ep, hidT_get e (dictFree e d), d, r⟩
    have KH : K.In (hidT s₁.heap H) := fun b ob e => by
      refine hidT_get (KX b ob e) ?_
      rcases hH b with z | ⟨z, z2, _⟩
      · exact z
      · subst z
        rw [z2] at e; cases e
    obtain ⟨mc, l1, l2⟩ := nl
    have e0 : Env0 P w K mg (hidT s₁.heap H) callerA [] s₁ H :=
      ⟨rfl, ⟨KH, ns' gm, ⟨mb, ns' gb, bb⟩, ⟨mc, ns' l1, l2⟩⟩, fun b ob e => of_hidT e, Nat.le_of_eq (hidT_size _ _), trivial, fun b z => absurd (show b ∈ ([] : List Addr) from z) (by simp), hok, .of_eq ng⟩
    refine codeAny_mono ((G _ KH (ns' gm)).go (us := [.ref a]) (vs := [.ref a]) rfl hr e0 (hb s₁ (.ref a)) (.cons rfl .nil) (sp_script hL hf)) fun r s' q => ?_
    cases r with
    | error e => exact False.elim q
    | ok fl =>
      cases fl with
      | next => exact False.elim q
      | brk => exact False.elim q
      | cont => exact False.elim q
      | ret u =>
        obtain ⟨v, H', os, bare, un, hok', rel, hv⟩ := q
        have hv : v = .bl true := hv
        subst hv
        obtain rfl : u = Value.bool true := rel
        refine ⟨rfl, OldK.of_keep fun b ob e => ?_, os, bare⟩
        rcases hH b with z | ⟨_, _, o2, xs, z⟩
        · exact un.keep b ob e z (fun y => absurd (show b ∈ ([] : List Addr) from y) (by simp)) (by simp)
        · obtain ⟨e1, _⟩ := hok b _ z
          obtain ⟨e2, _⟩ := hok' b _ (un.frzs b o2 _ z)
          rw [e] at e1
          cases e1
          exact e2
  cases hk : K.lookup a with
  | some ob =>
    have e := KX a ob hk
    rw [ha] at e
    cases e
    refine main (fun _ => none) (fun _ => .inl rfl) (.inr ⟨vs, hk, by rw [hi.length]; exact hl, rv⟩) fun b u z => ?_
    exact absurd (show (none : Option HO) = some u from z) (by simp)
  | none =>
    refine main (fun b => if b = a then some (.frz { cls := .type "list", data := .seq vs.toArray } (.lst (ns.map V.int))) else none) (fun b => ?_) (.inl (.inr ⟨_, if_pos rfl⟩)) fun b u z => ?_
    · by_cases hba : b = a
      · exact .inr ⟨hba, hk, _, _, if_pos hba⟩
      · exact .inl (if_neg hba)
    · by_cases hba : b = a
      · subst hba
        have z := (if_pos rfl).symm.trans z
        cases z
        exact ⟨ha, by rw [List.length_map]; exact hl, vs, _, rv, ha⟩
      · exact absurd ((if_neg hba).symm.trans z) (by simp)
theorem walk_top {l : PySem.W.OpenLaw} {n k : Nat} {q : Program} {loose : List Str} {XP : (Str → Option Value) → Heap → Prop} {YP : World → Heap → Prop} {d : DefRec} {x : Str} {fn : FV} (hn : l.most = some n) (hn2 : n ≤ sizeLine) (hdf : d.params.defaults = []) (hr : Room k callerA)
    (G : ∀ (w : World) (mg : Str → Option Value) (fa : Addr) (h : Heap), YP w h → h.Ns mainGlobals mg → mg d.name = some (.ref fa) → ∃ (K : PySem.W.Frag) (fd : FuncData), K.In h ∧ (∀ (s : Shared) (u : Value), BindsTo s fd ⟨[u], []⟩ [(x, u)]) ∧
      ∀ base : Heap, K.In base → base.Ns mainGlobals mg → FnG l.prog w K mg base k fa fd [x] (spP K 1 none fn))
    (hf : ∀ ns : List Int, ns.length ≤ n → (∀ k ∈ ns, Builtin.Int.intBits k ≤ 1048576) → ∃ o, fn [scriptD ns] = .ok (.fz (.bl true), o)) :
    PySem.W.WalkO q loose XP YP l.row.toRowW d [] (fun f vs => PySem.call f vs) := by
  refine Att.attach_callB hn hdf fun w s₀ s₁ mg mb fa o pm cd doc a vs ns GG Y ho hcd hdd hmg hobj hints hlen hbits hg => ?_
  obtain ⟨K, fd, KX, hb, hG⟩ := G w mg fa _ Y GG.T.g hmg
  exact top_run KX GG.T.g GG.T.b GG.T.builtins GG.T.nolimit hg hobj hints (Nat.le_trans hlen hn2) hr hG hb (hf ns hlen hbits)
end Pf

/-! Pf13: the functions worked out, one step a rule (what comes behind a step bears a name, so that simp leaves it). -/
namespace Pf
open PySem PySem.Spec PyProof.Rows L2
theorem okb {α β : Type} (a : α) (f : α → Res β) : (Res.ok a).bind f = f a := (rfl)
theorem badb {α β : Type} (f : α → Res β) : (Res.bad : Res α).bind f = .bad := (rfl)
theorem gdt {α : Type} (a : α) : gd true a = .ok a := (rfl)
theorem sl0 {o : Option OV} {l : T} : slotAt (o :: l) 0 = o := by unfold slotAt; simp
theorem slS {o : Option OV} {l : T} {i : Nat} : slotAt (o :: l) (i + 1) = slotAt l i := by unfold slotAt; simp
/-! expressions -/
def eSlotK (i : Nat) (τ : T) : Option OV → Res (Pre × T)
  | some _ => .ok (.sl i, τ)
  | none => .bad
theorem eSlot_e (i : Nat) (τ : T) : eSlot i τ = eSlotK i τ (slotAt τ i) := by unfold eSlot eSlotK; cases slotAt τ i <;> rfl
theorem eSlotK_some (i : Nat) (τ : T) (o : OV) : eSlotK i τ (some o) = .ok (.sl i, τ) := (rfl)
theorem eLit_e (d : D) (τ : T) : eLit d τ = .ok (.val (.fz d), τ) := (rfl)
theorem opd_val (r : OV) : opd (.val r) = .val (.fz r.er) := (rfl)
theorem opd_sl (i : Nat) : opd (.sl i) = .sl i := (rfl)
theorem vw_val (τ : T) (r : OV) : vw τ (.val r) = some r := (rfl)
theorem vw_sl (τ : T) (i : Nat) : vw τ (.sl i) = slotAt τ i := (rfl)
theorem er_fz (d : D) : (OV.fz d).er = d := (rfl)
theorem er_ls (xs : List OV) : (OV.ls xs).er = .lst (OV.ers xs) := (rfl)
def twoM (k : OV → OV → Res OV) (τ : T) : Option OV → Option OV → Res (Pre × T)
  | some x, some y => (k x y).bind fun r => .ok (.val r, τ)
  | _, _ => .bad
def twoL (k : OV → OV → Res OV) (p : Pre) : Pre × T → Res (Pre × T) := fun (q, τ) => twoM k τ (vw τ (opd p)) (vw τ (opd q))
def twoK (g : FP) (k : OV → OV → Res OV) : Pre × T → Res (Pre × T) := fun (p, τ) => (g τ).bind (twoL k p)
def valK (τ : T) : OV → Res (Pre × T) := fun r => .ok (.val r, τ)
theorem two_e (f g : FP) (k : OV → OV → Res OV) (τ : T) : two f g k τ = (f τ).bind (twoK g k) := by
  unfold two
  congr 1
theorem twoK_e (g : FP) (k : OV → OV → Res OV) (p : Pre) (τ : T) : twoK g k (p, τ) = (g τ).bind (twoL k p) := (rfl)
theorem twoL_e (k : OV → OV → Res OV) (p q : Pre) (τ : T) : twoL k p (q, τ) = twoM k τ (vw τ (opd p)) (vw τ (opd q)) := (rfl)
theorem twoM_e (k : OV → OV → Res OV) (τ : T) (x y : OV) : twoM k τ (some x) (some y) = (k x y).bind (valK τ) := (rfl)
theorem valK_e (τ : T) (r : OV) : valK τ r = .ok (.val r, τ) := (rfl)
def truK : Pre × T → Res (Bool × T) := fun (p, τ) => match vw τ (opd p) with
  | some o => (truthOf o).bind fun b => .ok (b, τ)
  | none => .bad
def truM (τ : T) : Option OV → Res (Bool × T)
  | some o => (truthOf o).bind fun b => .ok (b, τ)
  | none => .bad
def blK (τ : T) : Bool → Res (Bool × T) := fun b => .ok (b, τ)
theorem tru_e (f : FP) (τ : T) : tru f τ = (f τ).bind truK := (rfl)
theorem truK_e (p : Pre) (τ : T) : truK (p, τ) = truM τ (vw τ (opd p)) := by
  unfold truK truM
  dsimp only
theorem truM_e (τ : T) (o : OV) : truM τ (some o) = (truthOf o).bind (blK τ) := (rfl)
theorem blK_e (τ : T) (b : Bool) : blK τ b = .ok (b, τ) := (rfl)
def boK (isOr : Bool) (g : FP) : Pre × T → Res (Pre × T) := fun (p, τ) => match vw τ (opd p) with
  | some o => (truthOf o).bind fun k => if k = isOr then .ok (opd p, τ) else g τ
  | none => .bad
def boM (isOr : Bool) (g : FP) (p : Pre) (τ : T) : Option OV → Res (Pre × T)
  | some o => (truthOf o).bind fun k => if k = isOr then .ok (p, τ) else g τ
  | none => .bad
def boN (isOr : Bool) (g : FP) (p : Pre) (τ : T) : Bool → Res (Pre × T) := fun k => if k = isOr then .ok (p, τ) else g τ
theorem boF_e (isOr : Bool) (f g : FP) (τ : T) : boF isOr f g τ = (f τ).bind (boK isOr g) := (rfl)
theorem boK_e (isOr : Bool) (g : FP) (p : Pre) (τ : T) : boK isOr g (p, τ) = boM isOr g (opd p) τ (vw τ (opd p)) := by
  unfold boK boM
  dsimp only
theorem boM_e (isOr : Bool) (g : FP) (p : Pre) (τ : T) (o : OV) : boM isOr g p τ (some o) = (truthOf o).bind (boN isOr g p τ) := (rfl)
theorem boN_tt (g : FP) (p : Pre) (τ : T) : boN true g p τ true = .ok (p, τ) := (rfl)
theorem boN_tf (g : FP) (p : Pre) (τ : T) : boN true g p τ false = g τ := (rfl)
theorem boN_ft (g : FP) (p : Pre) (τ : T) : boN false g p τ true = g τ := (rfl)
theorem boN_ff (g : FP) (p : Pre) (τ : T) : boN false g p τ false = .ok (p, τ) := (rfl)
def notK : Bool × T → Res (Pre × T) := fun (k, τ) => .ok (.val (.fz (.bl (!k))), τ)
theorem notF_e (f : FP) (τ : T) : notF f τ = (tru f τ).bind notK := (rfl)
theorem notK_e (k : Bool) (τ : T) : notK (k, τ) = .ok (.val (.fz (.bl (!k))), τ) := (rfl)
def iteK (f g : FP) : Bool × T → Res (Pre × T) := fun (k, τ) => if k = true then f τ else g τ
theorem iteF_e (c f g : FP) (τ : T) : iteF c f g τ = (tru c τ).bind (iteK f g) := (rfl)
theorem iteK_t (f g : FP) (τ : T) : iteK f g (true, τ) = f τ := (rfl)
theorem iteK_f (f g : FP) (τ : T) : iteK f g (false, τ) = g τ := (rfl)
def negM (τ : T) : Option OV → Res (Pre × T)
  | some (.fz (.int i)) => .ok (.val (.fz (.int (-i))), τ)
  | _ => .bad
def negK : Pre × T → Res (Pre × T) := fun (p, τ) => negM τ (vw τ (opd p))
theorem negF_e (f : FP) (τ : T) : negF f τ = (f τ).bind negK := by
  unfold negF
  congr 1
theorem negK_e (p : Pre) (τ : T) : negK (p, τ) = negM τ (vw τ (opd p)) := (rfl)
theorem negM_e (τ : T) (i : Int) : negM τ (some (.fz (.int i))) = .ok (.val (.fz (.int (-i))), τ) := (rfl)
/-! arguments -/
theorem nilA_e (τ : T) : nilA τ = .ok ([], τ) := (rfl)
def consA3 (p : Pre) : List Pre × T → Res (List Pre × T) := fun (ps, τ) => .ok (p :: ps, τ)
def consA2 (h : FA) : Pre × T → Res (List Pre × T) := fun (p, τ) => (h τ).bind (consA3 p)
def consA1 (io : List Nat) (pk : Bool) (h : FA) : Pre × T → Res (List Pre × T) := fun (p, τ) => (kept io pk p τ).bind (consA2 h)
theorem consA_e (io : List Nat) (pk : Bool) (f : FP) (h : FA) (τ : T) : consA io pk f h τ = (f τ).bind (consA1 io pk h) := (rfl)
theorem consA1_e (io : List Nat) (pk : Bool) (h : FA) (p : Pre) (τ : T) : consA1 io pk h (p, τ) = (kept io pk p τ).bind (consA2 h) := (rfl)
theorem consA2_e (h : FA) (p : Pre) (τ : T) : consA2 h (p, τ) = (h τ).bind (consA3 p) := (rfl)
theorem consA3_e (p : Pre) (ps : List Pre) (τ : T) : consA3 p (ps, τ) = .ok (p :: ps, τ) := (rfl)
def keptK : D × T → Res (Pre × T) := fun (d, τ) => .ok (.val (.fz d), τ)
theorem kept_t (io : List Nat) (p : Pre) (τ : T) : kept io true p τ = .ok (opd p, τ) := (rfl)
theorem kept_f (io : List Nat) (p : Pre) (τ : T) : kept io false p τ = (settle io p τ).bind keptK := (rfl)
theorem keptK_e (d : D) (τ : T) : keptK (d, τ) = .ok (.val (.fz d), τ) := (rfl)
theorem settle_val (io : List Nat) (r : OV) (τ : T) : settle io (.val r) τ = .ok (r.er, τ) := (rfl)
theorem settle_sl (io : List Nat) (i : Nat) (τ : T) : settle io (.sl i) τ = frzSlot io i τ (slotAt τ i) := (rfl)
theorem frzSlot_fz (io : List Nat) (i : Nat) (τ : T) (d : D) : frzSlot io i τ (some (.fz d)) = .ok (d, τ) := (rfl)
theorem frzSlot_ls (io : List Nat) (i : Nat) (τ : T) (xs : List OV) : frzSlot io i τ (some (.ls xs)) = if i ∈ io then .bad else .ok (.lst (OV.ers xs), τ.set i (some (.fz (.lst (OV.ers xs))))) := (rfl)
def dsK (mk : List D → OV) (τ : T) : Option (List D) → Res (Pre × T)
  | some ds => gd (decide (ds.length ≤ sizeLine)) (.val (mk ds), τ)
  | none => .bad
def tupK (mk : List D → OV) : List Pre × T → Res (Pre × T) := fun (ps, τ) => dsK mk τ (datas ps)
theorem tupF_e (h : FA) (τ : T) : tupF h τ = (h τ).bind (tupK fun ds => .fz (.tup ds)) := by
  unfold tupF
  congr 1
theorem lstF_e (h : FA) (τ : T) : lstF h τ = (h τ).bind (tupK fun ds => .ls (ds.map OV.fz)) := by
  unfold lstF
  congr 1
theorem tupK_e (mk : List D → OV) (ps : List Pre) (τ : T) : tupK mk (ps, τ) = dsK mk τ (datas ps) := (rfl)
theorem dsK_e (mk : List D → OV) (τ : T) (ds : List D) : dsK mk τ (some ds) = gd (decide (ds.length ≤ sizeLine)) (.val (mk ds), τ) := (rfl)
theorem datas_nil : datas [] = some [] := (rfl)
theorem datas_cons (d : D) (ps : List Pre) : datas (.val (.fz d) :: ps) = (datas ps).map (d :: ·) := (rfl)
theorem vws_nil (τ : T) : vws τ [] = some [] := (rfl)
def vwsK : Option OV → Option (List OV) → Option (List OV)
  | some o, some os => some (o :: os)
  | _, _ => none
theorem vws_cons (τ : T) (p : Pre) (ps : List Pre) : vws τ (p :: ps) = vwsK (vw τ p) (vws τ ps) := by
  rw [vws]
  cases vw τ p <;> cases vws τ ps <;> rfl
theorem vwsK_e (o : OV) (os : List OV) : vwsK (some o) (some os) = some (o :: os) := (rfl)
def biM (k : List OV → Res OV) (τ : T) : Option (List OV) → Res (Pre × T)
  | some os => (k os).bind fun r => .ok (.val r, τ)
  | none => .bad
def biK (k : List OV → Res OV) : List Pre × T → Res (Pre × T) := fun (ps, τ) => biM k τ (vws τ ps)
theorem biF_e (h : FA) (k : List OV → Res OV) (τ : T) : biF h k τ = (h τ).bind (biK k) := by
  unfold biF
  congr 1
theorem biK_e (k : List OV → Res OV) (ps : List Pre) (τ : T) : biK k (ps, τ) = biM k τ (vws τ ps) := (rfl)
theorem biM_e (k : List OV → Res OV) (τ : T) (os : List OV) : biM k τ (some os) = (k os).bind (valK τ) := (rfl)
def rngM (k : List OV → Res (List D)) (τ : T) : Option (List OV) → Res (List D × T)
  | some os => (k os).bind fun ds => .ok (ds, τ)
  | none => .bad
def rngK (k : List OV → Res (List D)) : List Pre × T → Res (List D × T) := fun (ps, τ) => rngM k τ (vws τ ps)
def itsK (τ : T) : List D → Res (List D × T) := fun ds => .ok (ds, τ)
theorem rngF_e (k : List OV → Res (List D)) (h : FA) (τ : T) : rngF k h τ = (h τ).bind (rngK k) := by
  unfold rngF
  congr 1
theorem rngK_e (k : List OV → Res (List D)) (ps : List Pre) (τ : T) : rngK k (ps, τ) = rngM k τ (vws τ ps) := (rfl)
theorem rngM_e (k : List OV → Res (List D)) (τ : T) (os : List OV) : rngM k τ (some os) = (k os).bind (itsK τ) := (rfl)
theorem itsK_e (τ : T) (ds : List D) : itsK τ ds = .ok (ds, τ) := (rfl)
def callM (n : Nat) (l : Option Nat) (fn : FV) (τ : T) : Option (List OV × Nat) → Res (Pre × T)
  | some (os, i) => if os.length = n then (fn os).bind fun (r, o) => .ok (.val r, if l.isSome = true then τ.set i (some o) else τ) else .bad
  | none => .bad
def callK (n : Nat) (l : Option Nat) (fn : FV) : List Pre × T → Res (Pre × T) := fun (ps, τ) => callM n l fn τ (argsOf τ l ps)
def callN (l : Option Nat) (i : Nat) (τ : T) : OV × OV → Res (Pre × T) := fun (r, o) => .ok (.val r, if l.isSome = true then τ.set i (some o) else τ)
theorem callF_e (n : Nat) (l : Option Nat) (fn : FV) (h : FA) (τ : T) : callF n l fn h τ = (h τ).bind (callK n l fn) := by
  unfold callF
  congr 1
theorem callK_e (n : Nat) (l : Option Nat) (fn : FV) (ps : List Pre) (τ : T) : callK n l fn (ps, τ) = callM n l fn τ (argsOf τ l ps) := (rfl)
theorem callM_e (n : Nat) (l : Option Nat) (fn : FV) (τ : T) (os : List OV) (i : Nat) (h : os.length = n := by rfl) : callM n l fn τ (some (os, i)) = (fn os).bind (callN l i τ) := if_pos h
theorem callN_none (i : Nat) (τ : T) (r o : OV) : callN none i τ (r, o) = .ok (.val r, τ) := (rfl)
theorem callN_some (j i : Nat) (τ : T) (r o : OV) : callN (some j) i τ (r, o) = .ok (.val r, τ.set i (some o)) := (rfl)
def argL (i : Nat) : Option OV → Option (List D) → Option (List OV × Nat)
  | some (.ls xs), some ds => some (.ls xs :: ds.map OV.fz, i)
  | _, _ => none
theorem argsOf_none (τ : T) (ps : List Pre) : argsOf τ none ps = (datas ps).map fun ds => (ds.map OV.fz, 0) := by unfold argsOf; rfl
theorem argsOf_zero (τ : T) (i : Nat) (ps : List Pre) : argsOf τ (some 0) (.sl i :: ps) = argL i (slotAt τ i) (datas ps) := by
  unfold argsOf argL
  cases slotAt τ i with
  | none => rfl
  | some o => cases o <;> cases datas ps <;> rfl
theorem argsOf_succ (τ : T) (j : Nat) (d : D) (ps : List Pre) : argsOf τ (some (j + 1)) (.val (.fz d) :: ps) = (argsOf τ (some j) ps).map fun (os, i) => (.fz d :: os, i) := (rfl)
theorem argL_e (i : Nat) (xs : List OV) (ds : List D) : argL i (some (.ls xs)) (some ds) = some (.ls xs :: ds.map OV.fz, i) := (rfl)
/-! slices -/
theorem noneO_e (τ : T) : noneO τ = .ok (none, τ) := (rfl)
def someM (τ : T) : Option OV → Res (Option Int × T)
  | some (.fz (.int i)) => .ok (some i, τ)
  | _ => .bad
def someK : Pre × T → Res (Option Int × T) := fun (p, τ) => someM τ (vw τ (opd p))
theorem someO_e (f : FP) (τ : T) : someO f τ = (f τ).bind someK := (rfl)
theorem someK_e (p : Pre) (τ : T) : someK (p, τ) = someM τ (vw τ (opd p)) := (rfl)
theorem someM_e (τ : T) (i : Int) : someM τ (some (.fz (.int i))) = .ok (some i, τ) := (rfl)
def sliM (lo hi : Option Int) (τ : T) : Option OV → Res (Pre × T)
  | some o => (sliceS o lo hi).bind fun r => .ok (.val r, τ)
  | none => .bad
def sliL2 (p : Pre) (lo : Option Int) : Option Int × T → Res (Pre × T) := fun (hi, τ) => sliM lo hi τ (vw τ (opd p))
def sliL1 (p : Pre) (u : FO) : Option Int × T → Res (Pre × T) := fun (lo, τ) => (u τ).bind (sliL2 p lo)
def sliK (l u : FO) : Pre × T → Res (Pre × T) := fun (p, τ) => (l τ).bind (sliL1 p u)
theorem sliF_e (f : FP) (l u : FO) (τ : T) : sliF f l u τ = (f τ).bind (sliK l u) := by
  unfold sliF
  congr 1
theorem sliK_e (l u : FO) (p : Pre) (τ : T) : sliK l u (p, τ) = (l τ).bind (sliL1 p u) := (rfl)
theorem sliL1_e (p : Pre) (u : FO) (lo : Option Int) (τ : T) : sliL1 p u (lo, τ) = (u τ).bind (sliL2 p lo) := (rfl)
theorem sliL2_e (p : Pre) (lo hi : Option Int) (τ : T) : sliL2 p lo (hi, τ) = sliM lo hi τ (vw τ (opd p)) := (rfl)
theorem sliM_e (lo hi : Option Int) (τ : T) (o : OV) : sliM lo hi τ (some o) = (sliceS o lo hi).bind (valK τ) := (rfl)
/-! statements -/
theorem nxS_e (τ : T) : nxS τ = .ok (.nx, τ) := (rfl)
theorem bkS_e (τ : T) : bkS τ = .ok (.bk, τ) := (rfl)
theorem ctS_e (τ : T) : ctS τ = .ok (.ct, τ) := (rfl)
def seqK (h : FS) : Fl × T → Res (Fl × T) := fun (fl, τ) => match fl with
  | .nx => h τ
  | fl => .ok (fl, τ)
theorem seqS_e (g h : FS) (τ : T) : seqS g h τ = (g τ).bind (seqK h) := (rfl)
theorem seqK_nx (h : FS) (τ : T) : seqK h (.nx, τ) = h τ := (rfl)
theorem seqK_rt (h : FS) (r : OV) (τ : T) : seqK h (.rt r, τ) = .ok (.rt r, τ) := (rfl)
theorem seqK_bk (h : FS) (τ : T) : seqK h (.bk, τ) = .ok (.bk, τ) := (rfl)
theorem seqK_ct (h : FS) (τ : T) : seqK h (.ct, τ) = .ok (.ct, τ) := (rfl)
def ifK (g h : FS) : Bool × T → Res (Fl × T) := fun (k, τ) => if k = true then g τ else h τ
theorem ifS_e (c : FP) (g h : FS) (τ : T) : ifS c g h τ = (tru c τ).bind (ifK g h) := (rfl)
theorem ifK_t (g h : FS) (τ : T) : ifK g h (true, τ) = g τ := (rfl)
theorem ifK_f (g h : FS) (τ : T) : ifK g h (false, τ) = h τ := (rfl)
def exK : Pre × T → Res (Fl × T) := fun (_, τ) => .ok (.nx, τ)
theorem exS_e (f : FP) (τ : T) : exS f τ = (f τ).bind exK := (rfl)
theorem exK_e (p : Pre) (τ : T) : exK (p, τ) = .ok (.nx, τ) := (rfl)
def retL : OV × T → Res (Fl × T) := fun (r, τ) => .ok (.rt r, τ)
def retK (io : List Nat) : Pre × T → Res (Fl × T) := fun (p, τ) => (give io p τ).bind retL
theorem retS_e (io : List Nat) (f : FP) (τ : T) : retS io f τ = (f τ).bind (retK io) := (rfl)
theorem retK_e (io : List Nat) (p : Pre) (τ : T) : retK io (p, τ) = (give io p τ).bind retL := (rfl)
theorem retL_e (r : OV) (τ : T) : retL (r, τ) = .ok (.rt r, τ) := (rfl)
theorem retN_e (τ : T) : retN τ = .ok (.rt (.fz .non), τ) := (rfl)
theorem give_val (io : List Nat) (r : OV) (τ : T) : give io (.val r) τ = .ok (r, τ) := (rfl)
theorem give_sl (io : List Nat) (i : Nat) (τ : T) : give io (.sl i) τ = giveSlot io i τ (slotAt τ i) := (rfl)
theorem giveSlot_fz (io : List Nat) (i : Nat) (τ : T) (d : D) : giveSlot io i τ (some (.fz d)) = .ok (.fz d, τ) := (rfl)
theorem giveSlot_ls (io : List Nat) (i : Nat) (τ : T) (xs : List OV) : giveSlot io i τ (some (.ls xs)) = if i ∈ io then .bad else .ok (.ls xs, τ.set i none) := (rfl)
def takeK : D × T → Res (OV × T) := fun (d, τ) => .ok (.fz d, τ)
theorem take_tv (io : List Nat) (r : OV) (τ : T) : take io true (.val r) τ = .ok (r, τ) := (rfl)
theorem take_ts (io : List Nat) (i : Nat) (τ : T) : take io true (.sl i) τ = (settle io (.sl i) τ).bind takeK := (rfl)
theorem take_f (io : List Nat) (p : Pre) (τ : T) : take io false p τ = (settle io p τ).bind takeK := by cases p <;> rfl
theorem takeK_e (d : D) (τ : T) : takeK (d, τ) = .ok (.fz d, τ) := (rfl)
def nxK : T → Res (Fl × T) := fun τ => .ok (.nx, τ)
theorem nxK_e (τ : T) : nxK τ = .ok (.nx, τ) := (rfl)
def setL2 (io : List Nat) (i : Nat) : OV × T → Res (Fl × T) := fun (r, τ) => (putS io i r τ).bind nxK
def setK (io : List Nat) (i : Nat) (own : Bool) : Pre × T → Res (Fl × T) := fun (p, τ) => (take io own p τ).bind (setL2 io i)
theorem setS_e (io : List Nat) (i : Nat) (own : Bool) (f : FP) (τ : T) : setS io i own f τ = (f τ).bind (setK io i own) := (rfl)
theorem setK_e (io : List Nat) (i : Nat) (own : Bool) (p : Pre) (τ : T) : setK io i own (p, τ) = (take io own p τ).bind (setL2 io i) := (rfl)
theorem setL2_e (io : List Nat) (i : Nat) (r : OV) (τ : T) : setL2 io i (r, τ) = (putS io i r τ).bind nxK := (rfl)
theorem putS_e (io : List Nat) (i : Nat) (r : OV) (τ : T) (h1 : decide (i ∉ io) = true) (h2 : i < τ.length) : putS io i r τ = .ok (τ.set i (some r)) := by
  unfold putS
  rw [h1, decide_eq_true h2]
  rfl
def asgL (g : FG) : D × T → Res (Fl × T) := fun (d, τ) => (g d τ).bind nxK
def asgK (io : List Nat) (g : FG) : Pre × T → Res (Fl × T) := fun (p, τ) => (settle io p τ).bind (asgL g)
theorem asgS_e (io : List Nat) (g : FG) (f : FP) (τ : T) : asgS io g f τ = (f τ).bind (asgK io g) := (rfl)
theorem asgK_e (io : List Nat) (g : FG) (p : Pre) (τ : T) : asgK io g (p, τ) = (settle io p τ).bind (asgL g) := (rfl)
theorem asgL_e (g : FG) (d : D) (τ : T) : asgL g (d, τ) = (g d τ).bind nxK := (rfl)
theorem nameG_e (io : List Nat) (i : Nat) (d : D) (τ : T) : nameG io i d τ = putS io i (.fz d) τ := (rfl)
theorem nilG_e (τ : T) : nilG [] τ = .ok τ := (rfl)
theorem consG_e (g : FG) (h : FGs) (d : D) (ds : List D) (τ : T) : consG g h (d :: ds) τ = (g d τ).bind (h ds) := (rfl)
theorem tupG_e (n : Nat) (h : FGs) (ds : List D) (τ : T) (hl : ds.length = n) : tupG n h (.tup ds) τ = h ds τ := if_pos hl
def stM (k : Option Int) (i : Nat) (d : D) (τ : T) : Res (Fl × T) := match k with
  | some k => (setAt i k d τ).bind nxK
  | none => .bad
def stL3 (i : Nat) (d : D) : Pre × T → Res (Fl × T) := fun (r, τ) => stM (intOf (vw τ (opd r))) i d τ
def stL2 (fi : FP) (d : D) : Pre × T → Res (Fl × T) := fun (q, τ) => match q with
  | .sl i => (fi τ).bind (stL3 i d)
  | _ => .bad
def stL1 (fo fi : FP) : D × T → Res (Fl × T) := fun (d, τ) => (fo τ).bind (stL2 fi d)
def stK (io : List Nat) (fo fi : FP) : Pre × T → Res (Fl × T) := fun (p, τ) => (settle io p τ).bind (stL1 fo fi)
theorem stS_e (io : List Nat) (f fo fi : FP) (τ : T) : stS io f fo fi τ = (f τ).bind (stK io fo fi) := by
  unfold stS
  congr 1
theorem stK_e (io : List Nat) (fo fi : FP) (p : Pre) (τ : T) : stK io fo fi (p, τ) = (settle io p τ).bind (stL1 fo fi) := (rfl)
theorem stL1_e (fo fi : FP) (d : D) (τ : T) : stL1 fo fi (d, τ) = (fo τ).bind (stL2 fi d) := (rfl)
theorem stL2_e (fi : FP) (d : D) (i : Nat) (τ : T) : stL2 fi d (.sl i, τ) = (fi τ).bind (stL3 i d) := (rfl)
theorem stL3_e (i : Nat) (d : D) (r : Pre) (τ : T) : stL3 i d (r, τ) = stM (intOf (vw τ (opd r))) i d τ := (rfl)
theorem stM_e (k : Int) (i : Nat) (d : D) (τ : T) : stM (some k) i d τ = (setAt i k d τ).bind nxK := (rfl)
theorem intOf_e (k : Int) : intOf (some (.fz (.int k))) = some k := (rfl)
def setAtM (i : Nat) (k : Int) (d : D) (τ : T) : Option OV → Res T
  | some (.ls xs) => match ixN xs.length k with
    | some j => match xs[j]? with
      | some (.fz _) => .ok (τ.set i (some (.ls (xs.set j (.fz d)))))
      | _ => .bad
    | none => .bad
  | _ => .bad
def setAtN (i : Nat) (xs : List OV) (j : Nat) (d : D) (τ : T) : Option OV → Res T
  | some (.fz _) => .ok (τ.set i (some (.ls (xs.set j (.fz d)))))
  | _ => .bad
theorem setAt_e (i : Nat) (k : Int) (d : D) (τ : T) : setAt i k d τ = setAtM i k d τ (slotAt τ i) := by
  unfold setAt setAtM
  cases slotAt τ i with
  | none => rfl
  | some o => cases o <;> rfl
theorem setAtM_e (i : Nat) (k : Int) (d : D) (τ : T) (xs : List OV) (j : Nat) (h : ixN xs.length k = some j) : setAtM i k d τ (some (.ls xs)) = setAtN i xs j d τ xs[j]? := by
  unfold setAtM setAtN
  simp only [h]
theorem setAtN_e (i : Nat) (xs : List OV) (j : Nat) (d d0 : D) (τ : T) : setAtN i xs j d τ (some (.fz d0)) = .ok (τ.set i (some (.ls (xs.set j (.fz d))))) := (rfl)
def intAtM (k : Int) : Option OV → Option Int
  | some (.ls xs) => intOf (atI xs k)
  | _ => none
theorem intAt_e (i : Nat) (k : Int) (τ : T) : intAt i k τ = intAtM k (slotAt τ i) := by
  unfold intAt intAtM
  cases slotAt τ i with
  | none => rfl
  | some o => cases o <;> rfl
theorem intAtM_e (k : Int) (xs : List OV) : intAtM k (some (.ls xs)) = intOf (atI xs k) := (rfl)
def augP (op : Int → Int → Int) (i : Nat) (k a : Int) (τ : T) : Option Int → Res (Fl × T)
  | some b => (setAt i k (.int (op a b)) τ).bind nxK
  | none => .bad
def augL3 (op : Int → Int → Int) (i : Nat) (k a : Int) : Pre × T → Res (Fl × T) := fun (p, τ) => augP op i k a τ (intOf (vw τ (opd p)))
def augO (g : FP) (op : Int → Int → Int) (i : Nat) (τ : T) : Option Int → Option Int → Res (Fl × T)
  | some k, some a => (g τ).bind (augL3 op i k a)
  | _, _ => .bad
def augKey (i : Nat) (τ : T) : Option Int → Option Int
  | some k => intAt i k τ
  | none => none
def augL2 (g : FP) (op : Int → Int → Int) (i : Nat) : Pre × T → Res (Fl × T) := fun (r, τ) => augO g op i τ (intOf (vw τ (opd r))) (augKey i τ (intOf (vw τ (opd r))))
def augK (fi g : FP) (op : Int → Int → Int) : Pre × T → Res (Fl × T) := fun (q, τ) => match q with
  | .sl i => (fi τ).bind (augL2 g op i)
  | _ => .bad
theorem augS_e (fo fi g : FP) (op : Int → Int → Int) (τ : T) : augS fo fi g op τ = (fo τ).bind (augK fi g op) := by
  unfold augS
  congr 1
  funext ⟨q, τ1⟩
  cases q with
  | val r => rfl
  | sl i =>
    show (fi τ1).bind _ = (fi τ1).bind _
    congr 1
    funext ⟨r, τ2⟩
    show _ = augO g op i τ2 (intOf (vw τ2 (opd r))) (augKey i τ2 (intOf (vw τ2 (opd r))))
    dsimp only
    cases intOf (vw τ2 (opd r)) with
    | none => rfl
    | some k =>
      show (match intAt i k τ2 with | some a => _ | none => Res.bad) = augO g op i τ2 (some k) (intAt i k τ2)
      cases intAt i k τ2 with
      | none => rfl
      | some a =>
        show (g τ2).bind _ = (g τ2).bind _
        congr 1
theorem augK_e (fi g : FP) (op : Int → Int → Int) (i : Nat) (τ : T) : augK fi g op (.sl i, τ) = (fi τ).bind (augL2 g op i) := (rfl)
theorem augL2_e (g : FP) (op : Int → Int → Int) (i : Nat) (r : Pre) (τ : T) : augL2 g op i (r, τ) = augO g op i τ (intOf (vw τ (opd r))) (augKey i τ (intOf (vw τ (opd r)))) := (rfl)
theorem augKey_e (i : Nat) (τ : T) (k : Int) : augKey i τ (some k) = intAt i k τ := (rfl)
theorem augO_e (g : FP) (op : Int → Int → Int) (i : Nat) (τ : T) (k a : Int) : augO g op i τ (some k) (some a) = (g τ).bind (augL3 op i k a) := (rfl)
theorem augL3_e (op : Int → Int → Int) (i : Nat) (k a : Int) (p : Pre) (τ : T) : augL3 op i k a (p, τ) = augP op i k a τ (intOf (vw τ (opd p))) := (rfl)
theorem augP_e (op : Int → Int → Int) (i : Nat) (k a b : Int) (τ : T) : augP op i k a τ (some b) = (setAt i k (.int (op a b)) τ).bind nxK := (rfl)
def augN3 (io : List Nat) (i : Nat) (op : Int → Int → Int) (a : Int) (τ : T) : Option Int → Res (Fl × T)
  | some b => (putS io i (.fz (.int (op a b))) τ).bind nxK
  | none => .bad
def augN2 (io : List Nat) (i : Nat) (op : Int → Int → Int) (a : Int) : Pre × T → Res (Fl × T) := fun (p, τ) => augN3 io i op a τ (intOf (vw τ (opd p)))
def augN1 (io : List Nat) (i : Nat) (g : FP) (op : Int → Int → Int) (τ : T) : Option Int → Res (Fl × T)
  | some a => (g τ).bind (augN2 io i op a)
  | none => .bad
theorem augN_e (io : List Nat) (i : Nat) (g : FP) (op : Int → Int → Int) (τ : T) : augN io i g op τ = augN1 io i g op τ (intOf (slotAt τ i)) := by
  unfold augN
  cases intOf (slotAt τ i) with
  | none => rfl
  | some a =>
    show (g τ).bind _ = (g τ).bind _
    congr 1
theorem augN1_e (io : List Nat) (i : Nat) (g : FP) (op : Int → Int → Int) (τ : T) (a : Int) : augN1 io i g op τ (some a) = (g τ).bind (augN2 io i op a) := (rfl)
theorem augN2_e (io : List Nat) (i : Nat) (op : Int → Int → Int) (a : Int) (p : Pre) (τ : T) : augN2 io i op a (p, τ) = augN3 io i op a τ (intOf (vw τ (opd p))) := (rfl)
theorem augN3_e (io : List Nat) (i : Nat) (op : Int → Int → Int) (a b : Int) (τ : T) : augN3 io i op a τ (some b) = (putS io i (.fz (.int (op a b))) τ).bind nxK := (rfl)
theorem nilL_e (τ : T) : nilL τ = .ok ([], τ) := (rfl)
def consL3 (r : OV) : List OV × T → Res (List OV × T) := fun (rs, τ) => .ok (r :: rs, τ)
def consL2 (h : FO') : OV × T → Res (List OV × T) := fun (r, τ) => (h τ).bind (consL3 r)
def consL1 (io : List Nat) (own : Bool) (h : FO') : Pre × T → Res (List OV × T) := fun (p, τ) => (take io own p τ).bind (consL2 h)
theorem consL_e (io : List Nat) (own : Bool) (f : FP) (h : FO') (τ : T) : consL io own f h τ = (f τ).bind (consL1 io own h) := (rfl)
theorem consL1_e (io : List Nat) (own : Bool) (h : FO') (p : Pre) (τ : T) : consL1 io own h (p, τ) = (take io own p τ).bind (consL2 h) := (rfl)
theorem consL2_e (h : FO') (r : OV) (τ : T) : consL2 h (r, τ) = (h τ).bind (consL3 r) := (rfl)
theorem consL3_e (r : OV) (rs : List OV) (τ : T) : consL3 r (rs, τ) = .ok (r :: rs, τ) := (rfl)
def parK (io : List Nat) (is : List Nat) : List OV × T → Res (Fl × T) := fun (rs, τ) => (putL io is rs τ).bind nxK
theorem parS_e (io : List Nat) (is : List Nat) (h : FO') (τ : T) : parS io is h τ = (h τ).bind (parK io is) := (rfl)
theorem parK_e (io : List Nat) (is : List Nat) (rs : List OV) (τ : T) : parK io is (rs, τ) = (putL io is rs τ).bind nxK := (rfl)
theorem putL_nil (io : List Nat) (τ : T) : putL io [] [] τ = .ok τ := (rfl)
theorem putL_cons (io : List Nat) (i : Nat) (is : List Nat) (r : OV) (rs : List OV) (τ : T) : putL io (i :: is) (r :: rs) τ = (putS io i r τ).bind (putL io is rs) := (rfl)
/-! loops -/
def whlL (c : FP) (g : FS) (n : Nat) : Fl × T → Res (Fl × T) := fun (fl, τ) => match fl with
  | .nx => whl c g n τ
  | .ct => whl c g n τ
  | .bk => .ok (.nx, τ)
  | .rt r => .ok (.rt r, τ)
def whlK (c : FP) (g : FS) (n : Nat) : Bool × T → Res (Fl × T) := fun (k, τ) => if k = true then (g τ).bind (whlL c g n) else .ok (.nx, τ)
theorem whl_e (c : FP) (g : FS) (n : Nat) (τ : T) : whl c g (n + 1) τ = (tru c τ).bind (whlK c g n) := (rfl)
theorem whlK_t (c : FP) (g : FS) (n : Nat) (τ : T) : whlK c g n (true, τ) = (g τ).bind (whlL c g n) := (rfl)
theorem whlK_f (c : FP) (g : FS) (n : Nat) (τ : T) : whlK c g n (false, τ) = .ok (.nx, τ) := (rfl)
theorem whlL_nx (c : FP) (g : FS) (n : Nat) (τ : T) : whlL c g n (.nx, τ) = whl c g n τ := (rfl)
theorem whlL_ct (c : FP) (g : FS) (n : Nat) (τ : T) : whlL c g n (.ct, τ) = whl c g n τ := (rfl)
theorem whlL_bk (c : FP) (g : FS) (n : Nat) (τ : T) : whlL c g n (.bk, τ) = .ok (.nx, τ) := (rfl)
theorem whlL_rt (c : FP) (g : FS) (n : Nat) (r : OV) (τ : T) : whlL c g n (.rt r, τ) = .ok (.rt r, τ) := (rfl)
def forK2 (g : FG) (b : FS) (ds : List D) : Fl × T → Res (Fl × T) := fun (fl, τ) => match fl with
  | .nx => forL g b ds τ
  | .ct => forL g b ds τ
  | .bk => .ok (.nx, τ)
  | .rt r => .ok (.rt r, τ)
def forK1 (g : FG) (b : FS) (ds : List D) : T → Res (Fl × T) := fun τ => (b τ).bind (forK2 g b ds)
theorem forL_nil (g : FG) (b : FS) (τ : T) : forL g b [] τ = .ok (.nx, τ) := (rfl)
theorem forL_cons (g : FG) (b : FS) (d : D) (ds : List D) (τ : T) : forL g b (d :: ds) τ = (g d τ).bind (forK1 g b ds) := (rfl)
theorem forK1_e (g : FG) (b : FS) (ds : List D) (τ : T) : forK1 g b ds τ = (b τ).bind (forK2 g b ds) := (rfl)
theorem forK2_nx (g : FG) (b : FS) (ds : List D) (τ : T) : forK2 g b ds (.nx, τ) = forL g b ds τ := (rfl)
theorem forK2_ct (g : FG) (b : FS) (ds : List D) (τ : T) : forK2 g b ds (.ct, τ) = forL g b ds τ := (rfl)
theorem forK2_bk (g : FG) (b : FS) (ds : List D) (τ : T) : forK2 g b ds (.bk, τ) = .ok (.nx, τ) := (rfl)
theorem forK2_rt (g : FG) (b : FS) (ds : List D) (r : OV) (τ : T) : forK2 g b ds (.rt r, τ) = .ok (.rt r, τ) := (rfl)
def forK (g : FG) (b : FS) : List D × T → Res (Fl × T) := fun (ds, τ) => forL g b ds τ
theorem forS_e (h : FI) (g : FG) (b : FS) (τ : T) : forS h g b τ = (h τ).bind (forK g b) := (rfl)
theorem forK_e (g : FG) (b : FS) (ds : List D) (τ : T) : forK g b (ds, τ) = forL g b ds τ := (rfl)
def itM (τ : T) : Option (List D) → Res (List D × T)
  | some ds => .ok (ds, τ)
  | none => .bad
def itL : D × T → Res (List D × T) := fun (d, τ) => itM τ (itemsOf d)
def itK (io : List Nat) : Pre × T → Res (List D × T) := fun (p, τ) => (settle io p τ).bind itL
theorem itF_e (io : List Nat) (f : FP) (τ : T) : itF io f τ = (f τ).bind (itK io) := by
  unfold itF
  congr 1
theorem itK_e (io : List Nat) (p : Pre) (τ : T) : itK io (p, τ) = (settle io p τ).bind itL := (rfl)
theorem itL_e (d : D) (τ : T) : itL (d, τ) = itM τ (itemsOf d) := (rfl)
theorem itM_e (τ : T) (ds : List D) : itM τ (some ds) = .ok (ds, τ) := (rfl)
theorem items_tup (ds : List D) : itemsOf (.tup ds) = some ds := (rfl)
theorem items_lst (ds : List D) : itemsOf (.lst ds) = some ds := (rfl)
theorem items_str (z : Str) : itemsOf (.str z) = some (chars z) := (rfl)
/-! comprehensions -/
def compK2 (vs : List Nat) (τ1 : T) : List OV × T → Res (Pre × T) := fun (acc, τ2) => .ok (.val (.ls acc), backT (wipeT τ2 vs) τ1 vs)
def compK (io vs : List Nat) (own : Bool) (g : FG) (c : T → Res (Bool × T)) (f : FP) : List D × T → Res (Pre × T) := fun (ds, τ1) => if vs.all (noOwn τ1) && vs.all (fun i => decide (i ∉ io)) then
    (compL io vs own g c f ds [] τ1).bind (compK2 vs τ1)
  else .bad
theorem compF_e (io vs : List Nat) (own : Bool) (h : FI) (g : FG) (c : T → Res (Bool × T)) (f : FP) (τ : T) : compF io vs own h g c f τ = (h τ).bind (compK io vs own g c f) := (rfl)
theorem compK_e (io vs : List Nat) (own : Bool) (g : FG) (c : T → Res (Bool × T)) (f : FP) (ds : List D) (τ1 : T) (hz : (vs.all (noOwn τ1) && vs.all (fun i => decide (i ∉ io))) = true) : compK io vs own g c f (ds, τ1) = (compL io vs own g c f ds [] τ1).bind (compK2 vs τ1) := if_pos hz
theorem compK2_e (vs : List Nat) (τ1 τ2 : T) (acc : List OV) : compK2 vs τ1 (acc, τ2) = .ok (.val (.ls acc), backT (wipeT τ2 vs) τ1 vs) := (rfl)
theorem yesT_e (τ : T) : yesT τ = .ok (true, τ) := (rfl)
/-! values -/
theorem truth_bl (b : Bool) : truthOf (.fz (.bl b)) = .ok b := (rfl)
theorem eqv_int (i j : Int) : D.eqv (.int i) (.int j) = (i == j) := by
  unfold D.eqv D.py
  simp [PyData.eqv]
theorem dep_int (i : Int) : D.dep (.int i) = 0 := by
  unfold D.dep D.py
  simp [PyData.depth]
theorem eqS_int (i j : Int) : eqS (.fz (.int i)) (.fz (.int j)) = .ok (.fz (.bl (i == j))) := by
  unfold eqS depOk
  simp only [OV.er, dep_int, eqv_int]
  rfl
theorem neS_int (i j : Int) : neS (.fz (.int i)) (.fz (.int j)) = .ok (.fz (.bl (!(i == j)))) := by
  unfold neS depOk
  simp only [OV.er, dep_int, eqv_int]
  rfl
theorem lt_int (i j : Int) : D.lt (.int i) (.int j) = decide (i < j) := by
  unfold D.lt D.py
  exact PySem.W.dataLt_int i j
theorem cmpOk_int (i j : Int) : cmpOk (.int i) (.int j) = true := by
  unfold cmpOk depOk
  simp only [dep_int]
  simp [D.py, PySem.W.alike]
theorem ltS_int (i j : Int) : ltS (.fz (.int i)) (.fz (.int j)) = .ok (.fz (.bl (decide (i < j)))) := by
  unfold ltS
  simp only [OV.er, cmpOk_int, lt_int, gd_true]
theorem gtS_int (i j : Int) : gtS (.fz (.int i)) (.fz (.int j)) = .ok (.fz (.bl (decide (j < i)))) := by
  unfold gtS
  simp only [OV.er, cmpOk_int, lt_int, gd_true]
theorem leS_int (i j : Int) : leS (.fz (.int i)) (.fz (.int j)) = .ok (.fz (.bl (!decide (j < i)))) := by
  unfold leS
  simp only [OV.er, cmpOk_int, lt_int, gd_true]
theorem geS_int (i j : Int) : geS (.fz (.int i)) (.fz (.int j)) = .ok (.fz (.bl (!decide (i < j)))) := by
  unfold geS
  simp only [OV.er, cmpOk_int, lt_int, gd_true]
theorem addS_int (i j : Int) : addS (.fz (.int i)) (.fz (.int j)) = .ok (.fz (.int (i + j))) := (rfl)
theorem subS_int (i j : Int) : subS (.fz (.int i)) (.fz (.int j)) = .ok (.fz (.int (i - j))) := (rfl)
theorem mulS_int (i j : Int) : mulS (.fz (.int i)) (.fz (.int j)) = gd (mulOk i j) (.fz (.int (i * j))) := (rfl)
theorem divS_int (i j : Int) : divS (.fz (.int i)) (.fz (.int j)) = gd (decide (0 < j ∧ j.natAbs.log2 < 9000)) (.fz (.int (i / j))) := (rfl)
theorem modS_int (i j : Int) : modS (.fz (.int i)) (.fz (.int j)) = gd (decide (0 < j)) (.fz (.int (i % j))) := (rfl)
theorem powS_int (i j : Int) : powS (.fz (.int i)) (.fz (.int j)) = gd (decide (0 ≤ j ∧ j ≤ 1000000 ∧ i.natAbs < 2 ^ 64)) (.fz (.int (i ^ j.toNat))) := (rfl)
theorem mulOk_l {i j : Int} (h1 : -(2 ^ 64) < i) (h2 : i < 2 ^ 64) : mulOk i j = true := by unfold mulOk; exact decide_eq_true (.inl ⟨h1, h2⟩)
theorem mulOk_r {i j : Int} (h1 : -(2 ^ 64) < j) (h2 : j < 2 ^ 64) : mulOk i j = true := by unfold mulOk; exact decide_eq_true (.inr (.inl ⟨h1, h2⟩))
theorem intS_int (i : Int) : intS [.fz (.int i)] = .ok (.fz (.int i)) := (rfl)
theorem intS_bl (b : Bool) : intS [.fz (.bl b)] = .ok (.fz (.int (if b then 1 else 0))) := (rfl)
def idxM : Option OV → Res OV
  | some (.fz d) => .ok (.fz d)
  | _ => .bad
def idxD : Option D → Res OV
  | some d => .ok (.fz d)
  | none => .bad
theorem idx_ls (xs : List OV) (i : Int) : idxS (.ls xs) (.fz (.int i)) = idxM (atI xs i) := by
  unfold idxS idxM
  dsimp only
  all_goals (cases atI xs i with
    | none => rfl
    | some o => cases o <;> rfl)
theorem idx_lst (xs : List D) (i : Int) : idxS (.fz (.lst xs)) (.fz (.int i)) = idxD (atI xs i) := by
  unfold idxS idxD
  dsimp only
  all_goals (cases atI xs i <;> rfl)
theorem idx_tup (xs : List D) (i : Int) : idxS (.fz (.tup xs)) (.fz (.int i)) = idxD (atI xs i) := by
  unfold idxS idxD
  dsimp only
  all_goals (cases atI xs i <;> rfl)
theorem idxM_e (d : D) : idxM (some (.fz d)) = .ok (.fz d) := (rfl)
theorem idxD_e (d : D) : idxD (some d) = .ok (.fz d) := (rfl)
theorem atI0 {α : Type} (a : α) (l : List α) : atI (a :: l) 0 = some a := by simp [atI, ixN]
theorem atI1 {α : Type} (a b : α) (l : List α) : atI (a :: b :: l) 1 = some b := by
  unfold atI ixN
  rw [if_pos (by decide), if_pos (by simp; omega)]
  rfl
theorem atI2 {α : Type} (a b c : α) (l : List α) : atI (a :: b :: c :: l) 2 = some c := by
  unfold atI ixN
  rw [if_pos (by decide), if_pos (by simp; omega)]
  rfl
theorem atI3 {α : Type} (a b c d : α) (l : List α) : atI (a :: b :: c :: d :: l) 3 = some d := by
  unfold atI ixN
  rw [if_pos (by decide), if_pos (by simp; omega)]
  rfl
theorem atI_lt {α : Type} {xs : List α} {i : Int} (h0 : 0 ≤ i) (h1 : i < xs.length) : atI xs i = xs[i.toNat]? := by
  unfold atI ixN
  rw [if_pos h0, if_pos h1]
  rfl
theorem slice_tup (ds : List D) (lo hi : Option Int) : sliceS (.fz (.tup ds)) lo hi = .ok (.fz (.tup (cutD ds lo hi))) := (rfl)
theorem slice_lst (ds : List D) (lo hi : Option Int) : sliceS (.fz (.lst ds)) lo hi = .ok (.ls ((cutD ds lo hi).map OV.fz)) := (rfl)
theorem listOf_ls (ds : List D) : listOf (.ls (ds.map OV.fz)) = some ds := allFz_map ds
theorem listOf_lst (ds : List D) : listOf (.fz (.lst ds)) = some ds := (rfl)
theorem add_lst (xs : List D) (o : OV) (ys : List D) (h : listOf o = some ys) (hz : xs.length + ys.length ≤ sizeLine) : addS (.fz (.lst xs)) o = .ok (.ls ((xs ++ ys).map OV.fz)) := by
  show catS _ _ = _
  unfold catS
  rw [listOf_lst, h]
  dsimp only
  rw [decide_eq_true hz]
  rfl
end Pf
namespace Pf
open PySem PySem.Spec PyProof.Rows L2
theorem ers_nil : OV.ers [] = [] := (rfl)
theorem ers_cons (o : OV) (os : List OV) : OV.ers (o :: os) = o.er :: OV.ers os := (rfl)
theorem ers_map (ds : List D) : OV.ers (ds.map OV.fz) = ds := OV.ers_fz ds
theorem cat_lst (xs ys : List D) : addS (.fz (.lst xs)) (.fz (.lst ys)) = gd (decide (xs.length + ys.length ≤ sizeLine)) (.ls ((xs ++ ys).map OV.fz)) := (rfl)
theorem cat_tup (xs ys : List D) : addS (.fz (.tup xs)) (.fz (.tup ys)) = gd (decide (xs.length + ys.length ≤ sizeLine)) (.fz (.tup (xs ++ ys))) := (rfl)
theorem size_ok (n : Nat) (h : n ≤ 1000000) : decide (n ≤ sizeLine) = true := decide_eq_true (Nat.le_trans h (by decide))
theorem ix0 (n : Nat) : ixN (n + 1) 0 = some 0 := by
  unfold ixN
  rw [if_pos (by decide), if_pos (by omega)]
  rfl
theorem ix1 (n : Nat) : ixN (n + 1 + 1) 1 = some 1 := by
  unfold ixN
  rw [if_pos (by decide), if_pos (by omega)]
  rfl
theorem ix2 (n : Nat) : ixN (n + 1 + 1 + 1) 2 = some 2 := by
  unfold ixN
  rw [if_pos (by decide), if_pos (by omega)]
  rfl
theorem set_0 (i : Nat) (d d0 : D) (τ : T) (xs : List OV) : setAtM i 0 d τ (some (.ls (.fz d0 :: xs))) = .ok (τ.set i (some (.ls (.fz d :: xs)))) := by
  rw [setAtM_e i 0 d τ _ 0 (ix0 _)]
  rfl
theorem set_1 (i : Nat) (d d0 : D) (τ : T) (x : OV) (xs : List OV) : setAtM i 1 d τ (some (.ls (x :: .fz d0 :: xs))) = .ok (τ.set i (some (.ls (x :: .fz d :: xs)))) := by
  rw [setAtM_e i 1 d τ _ 1 (ix1 _)]
  rfl
theorem set_2 (i : Nat) (d d0 : D) (τ : T) (x y : OV) (xs : List OV) : setAtM i 2 d τ (some (.ls (x :: y :: .fz d0 :: xs))) = .ok (τ.set i (some (.ls (x :: y :: .fz d :: xs)))) := by
  rw [setAtM_e i 2 d τ _ 2 (ix2 _)]
  rfl
/-! a body at its end -/
def runK (l : Option Nat) : Fl × T → Res (OV × OV) := fun (fl, τ) => match fl with
  | .rt r => (lentAt l τ).bind fun o => .ok (r, o)
  | .nx => (lentAt l τ).bind fun o => .ok (.fz .non, o)
  | _ => .bad
def runL (r : OV) : OV → Res (OV × OV) := fun o => .ok (r, o)
theorem runF_e (m n : Nat) (l : Option Nat) (g : FS) (os : List OV) (h : os.length = n) : runF m n l g os = (g (os.map some ++ List.replicate (m - n) none)).bind (runK l) := if_pos h
theorem runK_rt (l : Option Nat) (r : OV) (τ : T) : runK l (.rt r, τ) = (lentAt l τ).bind (runL r) := (rfl)
theorem runK_nx (l : Option Nat) (τ : T) : runK l (.nx, τ) = (lentAt l τ).bind (runL (.fz .non)) := (rfl)
theorem runL_e (r o : OV) : runL r o = .ok (r, o) := (rfl)
theorem lent_none (τ : T) : lentAt none τ = .ok (.fz .non) := (rfl)
theorem lent_some (j : Nat) (τ : T) : lentAt (some j) τ = Res.of (slotAt τ j) := (rfl)
theorem wipe_n (τ : T) : wipeT τ [] = τ := (rfl)
theorem wipe_c (τ : T) (v : Nat) (vs : List Nat) : wipeT τ (v :: vs) = (wipeT τ vs).set v none := (rfl)
theorem back_n (τ τ0 : T) : backT τ τ0 [] = τ := (rfl)
theorem back_c (τ τ0 : T) (v : Nat) (vs : List Nat) : backT τ τ0 (v :: vs) = (backT τ τ0 vs).set v (slotAt τ0 v) := (rfl)
theorem of_some (o : OV) : Res.of (some o) = .ok o := (rfl)
end Pf

/-! Pf14: the laws' bag, what is taken of it, what is told alike. -/
namespace Pf
open PySem PySem.Spec PyProof.Rows L2
def bagV (m s p : Int) (ns : List Int) : OV := .ls [.fz (.int m), .fz (.int s), .fz (.int p), .fz (.lst (ns.map D.int))]
def Bag (ns : List Int) (o : OV) : Prop := ∃ m s p, o = bagV m s p ns ∧ 0 ≤ m ∧ 0 ≤ s ∧ s < 2147483647
theorem first_int (xs : List Int) : ∃ c : Int, atI (xs.map D.int ++ [D.int 0]) 0 = some (D.int c) := by
  cases xs with
  | nil => exact ⟨0, atI0 _ _⟩
  | cons x xs => exact ⟨x, atI0 _ _⟩
theorem cut_ints (xs : List Int) (lo hi : Option Int) : ∃ ys : List Int, cutD (xs.map D.int) lo hi = ys.map D.int ∧ ys.length ≤ xs.length := by
  refine ⟨(xs.drop (HT.sIx xs.length 0 lo)).take (HT.sIx xs.length xs.length hi - HT.sIx xs.length 0 lo), ?_, ?_⟩
  · unfold cutD
    rw [List.length_map, List.map_take, List.map_drop]
  · rw [List.length_take, List.length_drop]
    omega
def takeT : FS := (seqS (ifS (two (two (eSlot 0) (eLit (.int 0)) idxS) (eLit (.int 0)) gtS) (seqS (setS [0] 4 false (two (biF (consA [0] true (two (eSlot 0) (eLit (.int 0)) idxS) nilA) intS) (eSlot 1) modS))
  (seqS (stS [0] (two (biF (consA [0] true (two (eSlot 0) (eLit (.int 0)) idxS) nilA) intS) (eSlot 1) divS) (eSlot 0) (eLit (.int 0)))
  (seqS (retS [0] (eSlot 4))
  nxS))) nxS)
  (seqS (setS [0] 5 false (two (biF (consA [0] true (two (two (two (eSlot 0) (eLit (.int 1)) idxS) (eLit (.int 1)) addS) (eLit (.int 39373)) mulS) nilA) intS) (eLit (.int 1000000007)) modS))
  (seqS (setS [0] 6 false (two (biF (consA [0] true (two (two (biF (consA [0] true (two (eSlot 5) (eSlot 5) mulS) nilA) intS) (eLit (.int 998244353)) modS) (eLit (.int 30011)) mulS) nilA) intS) (eLit (.int 998244353)) modS))
  (seqS (retS [0] (two (biF (consA [0] true (two (eSlot 6) (eLit (.int 7)) divS) nilA) intS) (eSlot 1) modS))
  nxS))))
def takeG : FS := (seqS (ifS (two (two (eSlot 0) (eLit (.int 0)) idxS) (eLit (.int 0)) eqS) (seqS (setS [0] 2 false (two (two (sliF (two (eSlot 0) (eLit (.int 3)) idxS) (someO (two (eSlot 0) (eLit (.int 2)) idxS)) noneO) (lstF (consA [0] false (eLit (.int 0)) nilA)) addS) (eLit (.int 0)) idxS))
  (seqS (augS (eSlot 0) (eLit (.int 2)) (eLit (.int 1)) (fun i j => i + j))
  (seqS (ifS (two (eSlot 2) (two (eLit (.int 10)) (eLit (.int 18)) powS) geS) (seqS (stS [0] (eSlot 2) (eSlot 0) (eLit (.int 0)))
  nxS) nxS)
  (seqS (setS [0] 3 false (two (two (two (two (eSlot 0) (eLit (.int 1)) idxS) (eLit (.int 48271)) mulS) (two (biF (consA [0] true (eSlot 2) nilA) intS) (eLit (.int 2147483647)) modS) addS) (two (eLit (.int 7919)) (two (eSlot 0) (eLit (.int 2)) idxS) mulS) addS))
  (seqS (stS [0] (two (biF (consA [0] true (eSlot 3) nilA) intS) (eLit (.int 2147483647)) modS) (eSlot 0) (eLit (.int 1)))
  nxS))))) nxS) takeT)
def takeV : FV := runF 7 2 (some 0) takeG
theorem take_spec {ns : List Int} {b : OV} {many : Int} (hl : ns.length ≤ 63) (hm : 0 < many) (hm2 : many.natAbs.log2 < 9000) (hb : Bag ns b) :
    ∃ v b', takeV [b, .fz (.int many)] = .ok (.fz (.int v), b') ∧ Bag ns b' ∧ 0 ≤ v ∧ v < many := by
  obtain ⟨m, s, p, rfl, h0, h1, h2⟩ := hb
  unfold takeV takeG bagV
  rw [runF_e]
  case h => rfl
  obtain ⟨ys, e2, hy⟩ := cut_ints ns (some p) none
  obtain ⟨c, e3⟩ := first_int ys
  have e4 : ys.length + 1 ≤ 1000000 := by omega
  have p18 : powS (.fz (.int 10)) (.fz (.int 18)) = .ok (.fz (.int 1000000000000000000)) := rfl
  have r1 : ∀ i : Int, mulOk i 48271 = true := fun i => mulOk_r (by decide) (by decide)
  have r2 : ∀ i : Int, mulOk i 39373 = true := fun i => mulOk_r (by decide) (by decide)
  have r3 : ∀ i : Int, mulOk i 30011 = true := fun i => mulOk_r (by decide) (by decide)
  have r4 : ∀ i : Int, mulOk 7919 i = true := fun i => mulOk_l (by decide) (by decide)
  have r5 : ∀ i : Int, mulOk (i % 1000000007) (i % 1000000007) = true := fun i => mulOk_l (by omega) (by omega)
  have d7 : Nat.log2 (Int.natAbs 7) < 9000 := by decide
  have vm : ∀ i : Int, 0 ≤ i % many ∧ i % many < many := fun i => ⟨Int.emod_nonneg _ (by omega), Int.emod_lt_of_pos _ hm⟩
  have sm : ∀ i : Int, 0 ≤ i % 2147483647 ∧ i % 2147483647 < 2147483647 := fun i => by omega
  -- behind the first test, whatever the bag's first three are
  have rest : ∀ (m s p : Int) (o : Option OV) (o3 : Option OV), 0 ≤ m → 0 ≤ s → s < 2147483647 → ∃ v b', (takeT [some (bagV m s p ns), some (.fz (.int many)), o, o3, none, none, none]).bind (runK (some 0)) = .ok (.fz (.int v), b') ∧ Bag ns b' ∧ 0 ≤ v ∧ v < many := by
    intro m s p o o3 h0 h1 h2
    unfold bagV takeT
    by_cases hg : 0 < m
    · have e1 : decide (0 < m) = true := by simp [hg]
      simp only [okb, badb, gdt, sl0, slS, eSlot_e, eSlotK_some, eLit_e, opd_val, opd_sl, vw_val, vw_sl, er_fz, er_ls, two_e, twoK_e, twoL_e, twoM_e, valK_e, tru_e, truK_e, truM_e, blK_e, boF_e, boK_e, boM_e, boN_tt, boN_tf, boN_ft, boN_ff, notF_e, notK_e, iteF_e, iteK_t, iteK_f, negF_e, negK_e, negM_e, nilA_e, consA_e, consA1_e, consA2_e, consA3_e, kept_t, kept_f, keptK_e, settle_val, settle_sl, frzSlot_fz, frzSlot_ls, tupF_e, lstF_e, tupK_e, dsK_e, datas_nil, datas_cons, vws_nil, vws_cons, vwsK_e, biF_e, biK_e, biM_e, rngF_e, rngK_e, rngM_e, itsK_e, callF_e, callK_e, callN_none, callN_some, argsOf_none, argsOf_zero, argsOf_succ, argL_e, noneO_e, someO_e, someK_e, someM_e, sliF_e, sliK_e, sliL1_e, sliL2_e, sliM_e, nxS_e, bkS_e, ctS_e, seqS_e, seqK_nx, seqK_rt, seqK_bk, seqK_ct, ifS_e, ifK_t, ifK_f, exS_e, exK_e, retS_e, retK_e, retL_e, retN_e, give_val, give_sl, giveSlot_fz, giveSlot_ls, take_tv, take_ts, take_f, takeK_e, nxK_e, setS_e, setK_e, setL2_e, asgS_e, asgK_e, asgL_e, nameG_e, nilG_e, consG_e, stS_e, stK_e, stL1_e, stL2_e, stL3_e, stM_e, intOf_e, setAt_e, setAtN_e, intAt_e, intAtM_e, augS_e, augK_e, augL2_e, augKey_e, augO_e, augL3_e, augP_e, augN_e, augN1_e, augN2_e, augN3_e, nilL_e, consL_e, consL1_e, consL2_e, consL3_e, parS_e, parK_e, putL_nil, putL_cons, whlK_t, whlK_f, whlL_nx, whlL_ct, whlL_bk, whlL_rt, forK1_e, forK2_nx, forK2_ct, forK2_bk, forK2_rt, forS_e, forK_e, itF_e, itK_e, itL_e, itM_e, items_tup, items_lst, items_str, compF_e, compK2_e, yesT_e, truth_bl, eqS_int, neS_int, ltS_int, gtS_int, leS_int, geS_int, addS_int, subS_int, mulS_int, divS_int, modS_int, powS_int, intS_int, idx_ls, idx_lst, idx_tup, idxM_e, idxD_e, atI0, atI1, atI2, atI3, slice_tup, slice_lst, ers_nil, ers_cons, ers_map, cat_lst, cat_tup, set_0, set_1, set_2, runK_rt, runK_nx, runL_e, lent_none, lent_some, wipe_n, wipe_c, back_n, back_c, of_some, putS, Option.map_some, List.set_cons_zero, List.set_cons_succ, List.map_cons, List.map_nil, List.length_cons, List.length_nil, List.length_set, List.mem_cons, List.not_mem_nil, or_false, Nat.reduceAdd, Nat.reduceLT, Nat.reduceEqDiff, List.nil_append, List.cons_append, List.replicate, Nat.reduceSub, not_false_eq_true, decide_true, Bool.and_self, Int.reduceLT, Int.reduceLE, e1, hm, hm2, and_self]
      exact ⟨_, _, rfl, ⟨_, _, _, rfl, Int.ediv_nonneg h0 (by omega), h1, h2⟩, (vm _).1, (vm _).2⟩
    · have e1 : decide (0 < m) = false := by simp [hg]
      simp only [okb, badb, gdt, sl0, slS, eSlot_e, eSlotK_some, eLit_e, opd_val, opd_sl, vw_val, vw_sl, er_fz, er_ls, two_e, twoK_e, twoL_e, twoM_e, valK_e, tru_e, truK_e, truM_e, blK_e, boF_e, boK_e, boM_e, boN_tt, boN_tf, boN_ft, boN_ff, notF_e, notK_e, iteF_e, iteK_t, iteK_f, negF_e, negK_e, negM_e, nilA_e, consA_e, consA1_e, consA2_e, consA3_e, kept_t, kept_f, keptK_e, settle_val, settle_sl, frzSlot_fz, frzSlot_ls, tupF_e, lstF_e, tupK_e, dsK_e, datas_nil, datas_cons, vws_nil, vws_cons, vwsK_e, biF_e, biK_e, biM_e, rngF_e, rngK_e, rngM_e, itsK_e, callF_e, callK_e, callN_none, callN_some, argsOf_none, argsOf_zero, argsOf_succ, argL_e, noneO_e, someO_e, someK_e, someM_e, sliF_e, sliK_e, sliL1_e, sliL2_e, sliM_e, nxS_e, bkS_e, ctS_e, seqS_e, seqK_nx, seqK_rt, seqK_bk, seqK_ct, ifS_e, ifK_t, ifK_f, exS_e, exK_e, retS_e, retK_e, retL_e, retN_e, give_val, give_sl, giveSlot_fz, giveSlot_ls, take_tv, take_ts, take_f, takeK_e, nxK_e, setS_e, setK_e, setL2_e, asgS_e, asgK_e, asgL_e, nameG_e, nilG_e, consG_e, stS_e, stK_e, stL1_e, stL2_e, stL3_e, stM_e, intOf_e, setAt_e, setAtN_e, intAt_e, intAtM_e, augS_e, augK_e, augL2_e, augKey_e, augO_e, augL3_e, augP_e, augN_e, augN1_e, augN2_e, augN3_e, nilL_e, consL_e, consL1_e, consL2_e, consL3_e, parS_e, parK_e, putL_nil, putL_cons, whlK_t, whlK_f, whlL_nx, whlL_ct, whlL_bk, whlL_rt, forK1_e, forK2_nx, forK2_ct, forK2_bk, forK2_rt, forS_e, forK_e, itF_e, itK_e, itL_e, itM_e, items_tup, items_lst, items_str, compF_e, compK2_e, yesT_e, truth_bl, eqS_int, neS_int, ltS_int, gtS_int, leS_int, geS_int, addS_int, subS_int, mulS_int, divS_int, modS_int, powS_int, intS_int, idx_ls, idx_lst, idx_tup, idxM_e, idxD_e, atI0, atI1, atI2, atI3, slice_tup, slice_lst, ers_nil, ers_cons, ers_map, cat_lst, cat_tup, set_0, set_1, set_2, runK_rt, runK_nx, runL_e, lent_none, lent_some, wipe_n, wipe_c, back_n, back_c, of_some, putS, Option.map_some, List.set_cons_zero, List.set_cons_succ, List.map_cons, List.map_nil, List.length_cons, List.length_nil, List.length_set, List.mem_cons, List.not_mem_nil, or_false, Nat.reduceAdd, Nat.reduceLT, Nat.reduceEqDiff, List.nil_append, List.cons_append, List.replicate, Nat.reduceSub, not_false_eq_true, decide_true, Bool.and_self, Int.reduceLT, Int.reduceLE, e1, hm, hm2, and_self, r2, r3, r5, d7]
      exact ⟨_, _, rfl, ⟨_, _, _, rfl, h0, h1, h2⟩, (vm _).1, (vm _).2⟩
  by_cases hz : m = 0
  · have e1 : (m == 0) = true := by simp [hz]
    by_cases hc : c < 1000000000000000000
    · have e5 : (!decide (c < 1000000000000000000)) = false := by simp [hc]
      simp only [okb, badb, gdt, sl0, slS, eSlot_e, eSlotK_some, eLit_e, opd_val, opd_sl, vw_val, vw_sl, er_fz, er_ls, two_e, twoK_e, twoL_e, twoM_e, valK_e, tru_e, truK_e, truM_e, blK_e, boF_e, boK_e, boM_e, boN_tt, boN_tf, boN_ft, boN_ff, notF_e, notK_e, iteF_e, iteK_t, iteK_f, negF_e, negK_e, negM_e, nilA_e, consA_e, consA1_e, consA2_e, consA3_e, kept_t, kept_f, keptK_e, settle_val, settle_sl, frzSlot_fz, frzSlot_ls, tupF_e, lstF_e, tupK_e, dsK_e, datas_nil, datas_cons, vws_nil, vws_cons, vwsK_e, biF_e, biK_e, biM_e, rngF_e, rngK_e, rngM_e, itsK_e, callF_e, callK_e, callN_none, callN_some, argsOf_none, argsOf_zero, argsOf_succ, argL_e, noneO_e, someO_e, someK_e, someM_e, sliF_e, sliK_e, sliL1_e, sliL2_e, sliM_e, nxS_e, bkS_e, ctS_e, seqS_e, seqK_nx, seqK_rt, seqK_bk, seqK_ct, ifS_e, ifK_t, ifK_f, exS_e, exK_e, retS_e, retK_e, retL_e, retN_e, give_val, give_sl, giveSlot_fz, giveSlot_ls, take_tv, take_ts, take_f, takeK_e, nxK_e, setS_e, setK_e, setL2_e, asgS_e, asgK_e, asgL_e, nameG_e, nilG_e, consG_e, stS_e, stK_e, stL1_e, stL2_e, stL3_e, stM_e, intOf_e, setAt_e, setAtN_e, intAt_e, intAtM_e, augS_e, augK_e, augL2_e, augKey_e, augO_e, augL3_e, augP_e, augN_e, augN1_e, augN2_e, augN3_e, nilL_e, consL_e, consL1_e, consL2_e, consL3_e, parS_e, parK_e, putL_nil, putL_cons, whlK_t, whlK_f, whlL_nx, whlL_ct, whlL_bk, whlL_rt, forK1_e, forK2_nx, forK2_ct, forK2_bk, forK2_rt, forS_e, forK_e, itF_e, itK_e, itL_e, itM_e, items_tup, items_lst, items_str, compF_e, compK2_e, yesT_e, truth_bl, eqS_int, neS_int, ltS_int, gtS_int, leS_int, geS_int, addS_int, subS_int, mulS_int, divS_int, modS_int, powS_int, intS_int, idx_ls, idx_lst, idx_tup, idxM_e, idxD_e, atI0, atI1, atI2, atI3, slice_tup, slice_lst, ers_nil, ers_cons, ers_map, cat_lst, cat_tup, set_0, set_1, set_2, runK_rt, runK_nx, runL_e, lent_none, lent_some, wipe_n, wipe_c, back_n, back_c, of_some, putS, Option.map_some, List.set_cons_zero, List.set_cons_succ, List.map_cons, List.map_nil, List.length_cons, List.length_nil, List.length_set, List.mem_cons, List.not_mem_nil, or_false, Nat.reduceAdd, Nat.reduceLT, Nat.reduceEqDiff, List.nil_append, List.cons_append, List.replicate, Nat.reduceSub, not_false_eq_true, decide_true, Bool.and_self, Int.reduceLT, Int.reduceLE, e1, e2, e3, size_ok 1 (by decide), List.length_map, size_ok _ e4, p18, e5, r1, r4]
      exact rest _ _ _ _ _ h0 (sm _).1 (sm _).2
    · have e5 : (!decide (c < 1000000000000000000)) = true := by simp [hc]
      simp only [okb, badb, gdt, sl0, slS, eSlot_e, eSlotK_some, eLit_e, opd_val, opd_sl, vw_val, vw_sl, er_fz, er_ls, two_e, twoK_e, twoL_e, twoM_e, valK_e, tru_e, truK_e, truM_e, blK_e, boF_e, boK_e, boM_e, boN_tt, boN_tf, boN_ft, boN_ff, notF_e, notK_e, iteF_e, iteK_t, iteK_f, negF_e, negK_e, negM_e, nilA_e, consA_e, consA1_e, consA2_e, consA3_e, kept_t, kept_f, keptK_e, settle_val, settle_sl, frzSlot_fz, frzSlot_ls, tupF_e, lstF_e, tupK_e, dsK_e, datas_nil, datas_cons, vws_nil, vws_cons, vwsK_e, biF_e, biK_e, biM_e, rngF_e, rngK_e, rngM_e, itsK_e, callF_e, callK_e, callN_none, callN_some, argsOf_none, argsOf_zero, argsOf_succ, argL_e, noneO_e, someO_e, someK_e, someM_e, sliF_e, sliK_e, sliL1_e, sliL2_e, sliM_e, nxS_e, bkS_e, ctS_e, seqS_e, seqK_nx, seqK_rt, seqK_bk, seqK_ct, ifS_e, ifK_t, ifK_f, exS_e, exK_e, retS_e, retK_e, retL_e, retN_e, give_val, give_sl, giveSlot_fz, giveSlot_ls, take_tv, take_ts, take_f, takeK_e, nxK_e, setS_e, setK_e, setL2_e, asgS_e, asgK_e, asgL_e, nameG_e, nilG_e, consG_e, stS_e, stK_e, stL1_e, stL2_e, stL3_e, stM_e, intOf_e, setAt_e, setAtN_e, intAt_e, intAtM_e, augS_e, augK_e, augL2_e, augKey_e, augO_e, augL3_e, augP_e, augN_e, augN1_e, augN2_e, augN3_e, nilL_e, consL_e, consL1_e, consL2_e, consL3_e, parS_e, parK_e, putL_nil, putL_cons, whlK_t, whlK_f, whlL_nx, whlL_ct, whlL_bk, whlL_rt, forK1_e, forK2_nx, forK2_ct, forK2_bk, forK2_rt, forS_e, forK_e, itF_e, itK_e, itL_e, itM_e, items_tup, items_lst, items_str, compF_e, compK2_e, yesT_e, truth_bl, eqS_int, neS_int, ltS_int, gtS_int, leS_int, geS_int, addS_int, subS_int, mulS_int, divS_int, modS_int, powS_int, intS_int, idx_ls, idx_lst, idx_tup, idxM_e, idxD_e, atI0, atI1, atI2, atI3, slice_tup, slice_lst, ers_nil, ers_cons, ers_map, cat_lst, cat_tup, set_0, set_1, set_2, runK_rt, runK_nx, runL_e, lent_none, lent_some, wipe_n, wipe_c, back_n, back_c, of_some, putS, Option.map_some, List.set_cons_zero, List.set_cons_succ, List.map_cons, List.map_nil, List.length_cons, List.length_nil, List.length_set, List.mem_cons, List.not_mem_nil, or_false, Nat.reduceAdd, Nat.reduceLT, Nat.reduceEqDiff, List.nil_append, List.cons_append, List.replicate, Nat.reduceSub, not_false_eq_true, decide_true, Bool.and_self, Int.reduceLT, Int.reduceLE, e1, e2, e3, size_ok 1 (by decide), List.length_map, size_ok _ e4, p18, e5, r1, r4]
      exact rest _ _ _ _ _ (by omega) (sm _).1 (sm _).2
  · have e1 : (m == 0) = false := by simp [hz]
    simp only [okb, badb, gdt, sl0, slS, eSlot_e, eSlotK_some, eLit_e, opd_val, opd_sl, vw_val, vw_sl, er_fz, er_ls, two_e, twoK_e, twoL_e, twoM_e, valK_e, tru_e, truK_e, truM_e, blK_e, boF_e, boK_e, boM_e, boN_tt, boN_tf, boN_ft, boN_ff, notF_e, notK_e, iteF_e, iteK_t, iteK_f, negF_e, negK_e, negM_e, nilA_e, consA_e, consA1_e, consA2_e, consA3_e, kept_t, kept_f, keptK_e, settle_val, settle_sl, frzSlot_fz, frzSlot_ls, tupF_e, lstF_e, tupK_e, dsK_e, datas_nil, datas_cons, vws_nil, vws_cons, vwsK_e, biF_e, biK_e, biM_e, rngF_e, rngK_e, rngM_e, itsK_e, callF_e, callK_e, callN_none, callN_some, argsOf_none, argsOf_zero, argsOf_succ, argL_e, noneO_e, someO_e, someK_e, someM_e, sliF_e, sliK_e, sliL1_e, sliL2_e, sliM_e, nxS_e, bkS_e, ctS_e, seqS_e, seqK_nx, seqK_rt, seqK_bk, seqK_ct, ifS_e, ifK_t, ifK_f, exS_e, exK_e, retS_e, retK_e, retL_e, retN_e, give_val, give_sl, giveSlot_fz, giveSlot_ls, take_tv, take_ts, take_f, takeK_e, nxK_e, setS_e, setK_e, setL2_e, asgS_e, asgK_e, asgL_e, nameG_e, nilG_e, consG_e, stS_e, stK_e, stL1_e, stL2_e, stL3_e, stM_e, intOf_e, setAt_e, setAtN_e, intAt_e, intAtM_e, augS_e, augK_e, augL2_e, augKey_e, augO_e, augL3_e, augP_e, augN_e, augN1_e, augN2_e, augN3_e, nilL_e, consL_e, consL1_e, consL2_e, consL3_e, parS_e, parK_e, putL_nil, putL_cons, whlK_t, whlK_f, whlL_nx, whlL_ct, whlL_bk, whlL_rt, forK1_e, forK2_nx, forK2_ct, forK2_bk, forK2_rt, forS_e, forK_e, itF_e, itK_e, itL_e, itM_e, items_tup, items_lst, items_str, compF_e, compK2_e, yesT_e, truth_bl, eqS_int, neS_int, ltS_int, gtS_int, leS_int, geS_int, addS_int, subS_int, mulS_int, divS_int, modS_int, powS_int, intS_int, idx_ls, idx_lst, idx_tup, idxM_e, idxD_e, atI0, atI1, atI2, atI3, slice_tup, slice_lst, ers_nil, ers_cons, ers_map, cat_lst, cat_tup, set_0, set_1, set_2, runK_rt, runK_nx, runL_e, lent_none, lent_some, wipe_n, wipe_c, back_n, back_c, of_some, putS, Option.map_some, List.set_cons_zero, List.set_cons_succ, List.map_cons, List.map_nil, List.length_cons, List.length_nil, List.length_set, List.mem_cons, List.not_mem_nil, or_false, Nat.reduceAdd, Nat.reduceLT, Nat.reduceEqDiff, List.nil_append, List.cons_append, List.replicate, Nat.reduceSub, not_false_eq_true, decide_true, Bool.and_self, Int.reduceLT, Int.reduceLE, e1]
    exact rest _ _ _ _ _ h0 h1 h2
/-! comprehensions -/
theorem comp_rel {io vs : List Nat} {own : Bool} {g : FG} {c : T → Res (Bool × T)} {f : FP} (P : T → Prop) (R : D → OV → Prop)
    (turn : ∀ (d : D) (τ : T), P τ → ∃ τ1 b τ2, g d (wipeT τ vs) = .ok τ1 ∧ c τ1 = .ok (b, τ2) ∧ (b = false → P τ2) ∧ (b = true → ∃ p τ3 o τ4, f τ2 = .ok (p, τ3) ∧ Pf.take io own p τ3 = .ok (o, τ4) ∧ R d o ∧ P τ4)) :
    ∀ (ds : List D) (acc : List OV) (τ : T), P τ → acc.length + ds.length ≤ sizeLine → ∃ os τ', compL io vs own g c f ds acc τ = .ok (acc ++ os, τ') ∧ P τ' ∧ os.length ≤ ds.length ∧ (∀ o ∈ os, ∃ d ∈ ds, R d o)
  | [], acc, τ, hp, _ => ⟨[], τ, by rw [compL, List.append_nil], hp, Nat.le_refl _, fun o ho => absurd ho (by simp)⟩
  | d :: ds, acc, τ, hp, hz => by
    rw [List.length_cons] at hz
    obtain ⟨τ1, b, τ2, e1, e2, hf, ht⟩ := turn d τ hp
    cases b with
    | false =>
      obtain ⟨os, τ', e3, hp', hl, hr⟩ := comp_rel P R turn ds acc τ2 (hf rfl) (by omega)
      refine ⟨os, τ', ?_, hp', by rw [List.length_cons]; omega, fun o ho => ?_⟩
      · rw [compL, e1, Res.ok_bind, e2, Res.ok_bind]
        exact e3
      · obtain ⟨d', hd, q⟩ := hr o ho
        exact ⟨d', List.mem_cons_of_mem _ hd, q⟩
    | true =>
      obtain ⟨p, τ3, o, τ4, e3, e4, hr, hp4⟩ := ht rfl
      obtain ⟨os, τ', e5, hp', hl, hrs⟩ := comp_rel P R turn ds (acc ++ [o]) τ4 hp4 (by rw [List.length_append, List.length_cons, List.length_nil]; omega)
      refine ⟨o :: os, τ', ?_, hp', by rw [List.length_cons, List.length_cons]; omega, fun x hx => ?_⟩
      · rw [compL, e1, Res.ok_bind, e2, Res.ok_bind]
        show (f τ2).bind _ = _
        rw [e3, Res.ok_bind]
        show (Pf.take io own p τ3).bind _ = _
        rw [e4, Res.ok_bind]
        show (if acc.length < sizeLine then _ else Res.bad) = _
        rw [if_pos (by omega), e5, List.append_assoc]
        rfl
      · rcases List.mem_cons.mp hx with rfl | hx
        · exact ⟨d, List.mem_cons_self, hr⟩
        · obtain ⟨d', hd, q⟩ := hrs x hx
          exact ⟨d', List.mem_cons_of_mem _ hd, q⟩
/-- every item told by itself -/
theorem comp_map {io vs : List Nat} {own : Bool} {g : FG} {c : T → Res (Bool × T)} {f : FP} (P : T → Prop) (r : D → Option OV) (S : D → Prop)
    (turn : ∀ (d : D) (τ : T), S d → P τ → ∃ τ1 b τ2, g d (wipeT τ vs) = .ok τ1 ∧ c τ1 = .ok (b, τ2) ∧ (b = false → r d = none ∧ P τ2) ∧ (b = true → ∃ p τ3 o τ4, f τ2 = .ok (p, τ3) ∧ Pf.take io own p τ3 = .ok (o, τ4) ∧ r d = some o ∧ P τ4)) :
    ∀ (ds : List D) (acc : List OV) (τ : T), (∀ d ∈ ds, S d) → P τ → acc.length + ds.length ≤ sizeLine → ∃ τ', compL io vs own g c f ds acc τ = .ok (acc ++ ds.filterMap r, τ') ∧ P τ'
  | [], acc, τ, _, hp, _ => ⟨τ, by rw [compL, List.filterMap_nil, List.append_nil], hp⟩
  | d :: ds, acc, τ, hs, hp, hz => by
    rw [List.length_cons] at hz
    have hs' : ∀ x ∈ ds, S x := fun x hx => hs x (List.mem_cons_of_mem _ hx)
    obtain ⟨τ1, b, τ2, e1, e2, hf, ht⟩ := turn d τ (hs d List.mem_cons_self) hp
    cases b with
    | false =>
      obtain ⟨hr, hp2⟩ := hf rfl
      obtain ⟨τ', e3, hp'⟩ := comp_map P r S turn ds acc τ2 hs' hp2 (by omega)
      refine ⟨τ', ?_, hp'⟩
      rw [compL, e1, Res.ok_bind, e2, Res.ok_bind, List.filterMap_cons, hr]
      exact e3
    | true =>
      obtain ⟨p, τ3, o, τ4, e3, e4, hr, hp4⟩ := ht rfl
      obtain ⟨τ', e5, hp'⟩ := comp_map P r S turn ds (acc ++ [o]) τ4 hs' hp4 (by rw [List.length_append, List.length_cons, List.length_nil]; omega)
      refine ⟨τ', ?_, hp'⟩
      rw [compL, e1, Res.ok_bind, e2, Res.ok_bind, List.filterMap_cons, hr]
      show (f τ2).bind _ = _
      rw [e3, Res.ok_bind]
      show (Pf.take io own p τ3).bind _ = _
      rw [e4, Res.ok_bind]
      show (if acc.length < sizeLine then _ else Res.bad) = _
      rw [if_pos (by omega), e5, List.append_assoc]
      rfl
/-! the bag -/
def bagG : FS := (seqS (retS [] (lstF (consA [] false (eLit (.int 0)) (consA [] false (eLit (.int 1234567891)) (consA [] false (eLit (.int 0)) (consA [] false (compF [] [1] false (itF [] (sliF (eSlot 0) noneO (someO (eLit (.int 63))))) (nameG [] 1) yesT (biF (consA [] true (eSlot 1) nilA) absS)) nilA))))))
  nxS)
def bagF : FV := runF 2 1 none bagG
theorem absS_int (i : Int) : absS [.fz (.int i)] = .ok (.fz (.int (if i < 0 then -i else i))) := rfl
theorem cut_63 {ns : List Int} (hl : ns.length ≤ 63) : cutD (ns.map D.int) none (some 63) = ns.map D.int := by
  unfold cutD HT.sIx
  rw [List.length_map]
  simp only [Int.reduceLT, if_false]
  rw [show min (Int.toNat 63) ns.length - 0 = ns.length by simp; omega, List.drop_zero, List.take_of_length_le (by simp)]
theorem bag_spec {ns : List Int} (hl : ns.length ≤ 63) : ∃ b ns', bagF [scriptD ns] = .ok (b, .fz .non) ∧ Bag ns' b ∧ ns'.length ≤ 63 := by
  unfold bagF bagG scriptD
  rw [runF_e]
  case h => rfl
  have turn : ∀ (d : D) (τ : T), (∃ i, d = .int i) → (∃ o, τ = [some (.fz (.lst (ns.map D.int))), o]) → ∃ τ1 b τ2, nameG [] 1 d (wipeT τ [1]) = .ok τ1 ∧ yesT τ1 = .ok (b, τ2) ∧ (b = false → (match d with | .int i => some (OV.fz (.int (if i < 0 then -i else i))) | _ => none) = none ∧ (∃ o, τ2 = [some (.fz (.lst (ns.map D.int))), o])) ∧
      (b = true → ∃ p τ3 o τ4, biF (consA [] true (eSlot 1) nilA) absS τ2 = .ok (p, τ3) ∧ Pf.take [] false p τ3 = .ok (o, τ4) ∧ (match d with | .int i => some (OV.fz (.int (if i < 0 then -i else i))) | _ => none) = some o ∧ (∃ o, τ4 = [some (.fz (.lst (ns.map D.int))), o])) := by
    rintro d τ ⟨i, rfl⟩ ⟨o, rfl⟩
    refine ⟨[some (.fz (.lst (ns.map D.int))), some (.fz (.int i))], true, _, rfl, rfl, fun z => Bool.noConfusion z, fun _ => ⟨.val (.fz (.int (if i < 0 then -i else i))), [some (.fz (.lst (ns.map D.int))), some (.fz (.int i))], _, _, ?_, rfl, rfl, ⟨_, rfl⟩⟩⟩
    simp only [okb, badb, gdt, sl0, slS, eSlot_e, eSlotK_some, eLit_e, opd_val, opd_sl, vw_val, vw_sl, er_fz, er_ls, two_e, twoK_e, twoL_e, twoM_e, valK_e, tru_e, truK_e, truM_e, blK_e, boF_e, boK_e, boM_e, boN_tt, boN_tf, boN_ft, boN_ff, notF_e, notK_e, iteF_e, iteK_t, iteK_f, negF_e, negK_e, negM_e, nilA_e, consA_e, consA1_e, consA2_e, consA3_e, kept_t, kept_f, keptK_e, settle_val, settle_sl, frzSlot_fz, frzSlot_ls, tupF_e, lstF_e, tupK_e, dsK_e, datas_nil, datas_cons, vws_nil, vws_cons, vwsK_e, biF_e, biK_e, biM_e, rngF_e, rngK_e, rngM_e, itsK_e, callF_e, callK_e, callN_none, callN_some, argsOf_none, argsOf_zero, argsOf_succ, argL_e, noneO_e, someO_e, someK_e, someM_e, sliF_e, sliK_e, sliL1_e, sliL2_e, sliM_e, nxS_e, bkS_e, ctS_e, seqS_e, seqK_nx, seqK_rt, seqK_bk, seqK_ct, ifS_e, ifK_t, ifK_f, exS_e, exK_e, retS_e, retK_e, retL_e, retN_e, give_val, give_sl, giveSlot_fz, giveSlot_ls, take_tv, take_ts, take_f, takeK_e, nxK_e, setS_e, setK_e, setL2_e, asgS_e, asgK_e, asgL_e, nameG_e, nilG_e, consG_e, stS_e, stK_e, stL1_e, stL2_e, stL3_e, stM_e, intOf_e, setAt_e, setAtN_e, intAt_e, intAtM_e, augS_e, augK_e, augL2_e, augKey_e, augO_e, augL3_e, augP_e, augN_e, augN1_e, augN2_e, augN3_e, nilL_e, consL_e, consL1_e, consL2_e, consL3_e, parS_e, parK_e, putL_nil, putL_cons, whlK_t, whlK_f, whlL_nx, whlL_ct, whlL_bk, whlL_rt, forK1_e, forK2_nx, forK2_ct, forK2_bk, forK2_rt, forS_e, forK_e, itF_e, itK_e, itL_e, itM_e, items_tup, items_lst, items_str, compF_e, compK2_e, yesT_e, truth_bl, eqS_int, neS_int, ltS_int, gtS_int, leS_int, geS_int, addS_int, subS_int, mulS_int, divS_int, modS_int, powS_int, intS_int, idx_ls, idx_lst, idx_tup, idxM_e, idxD_e, atI0, atI1, atI2, atI3, slice_tup, slice_lst, ers_nil, ers_cons, ers_map, cat_lst, cat_tup, set_0, set_1, set_2, runK_rt, runK_nx, runL_e, lent_none, lent_some, wipe_n, wipe_c, back_n, back_c, of_some, putS, Option.map_some, List.set_cons_zero, List.set_cons_succ, List.map_cons, List.map_nil, List.length_cons, List.length_nil, List.length_set, List.mem_cons, List.not_mem_nil, or_false, Nat.reduceAdd, Nat.reduceLT, Nat.reduceEqDiff, List.nil_append, List.cons_append, List.replicate, Nat.reduceSub, not_false_eq_true, decide_true, Bool.and_self, Int.reduceLT, Int.reduceLE, absS_int]
  obtain ⟨τ', e1, o', rfl⟩ := comp_map (io := []) (vs := [1]) (own := false) (g := nameG [] 1) (c := yesT) (f := biF (consA [] true (eSlot 1) nilA) absS) (fun τ => ∃ o, τ = [some (.fz (.lst (ns.map D.int))), o]) _ (fun d => ∃ i, d = .int i) turn (ns.map D.int) [] [some (.fz (.lst (ns.map D.int))), none]
    (fun d hd => by obtain ⟨i, _, e⟩ := List.mem_map.mp hd; exact ⟨i, e.symm⟩) ⟨_, rfl⟩ (by rw [List.length_map, List.length_nil]; have : (1000 : Nat) ≤ sizeLine := by decide
                                                                                            omega)
  have e2 : (ns.map D.int).filterMap (fun d => match d with | .int i => some (OV.fz (.int (if i < 0 then -i else i))) | _ => none) = (ns.map fun i => D.int (if i < 0 then -i else i)).map OV.fz := by
    rw [List.filterMap_map, List.map_map]
    show List.filterMap (fun i => some (OV.fz (D.int (if i < 0 then -i else i)))) ns = _
    rw [List.filterMap_eq_map']
    rfl
  have e3 : cutD (ns.map D.int) none (some 63) = ns.map D.int := cut_63 hl
  have e4 : ([1].all (noOwn [some (.fz (.lst (ns.map D.int))), none]) && [1].all (fun i => decide (i ∉ ([] : List Nat)))) = true := rfl
  rw [e2, List.nil_append] at e1
  simp only [okb, badb, gdt, sl0, slS, eSlot_e, eSlotK_some, eLit_e, opd_val, opd_sl, vw_val, vw_sl, er_fz, er_ls, two_e, twoK_e, twoL_e, twoM_e, valK_e, tru_e, truK_e, truM_e, blK_e, boF_e, boK_e, boM_e, boN_tt, boN_tf, boN_ft, boN_ff, notF_e, notK_e, iteF_e, iteK_t, iteK_f, negF_e, negK_e, negM_e, nilA_e, consA_e, consA1_e, consA2_e, consA3_e, kept_t, kept_f, keptK_e, settle_val, settle_sl, frzSlot_fz, frzSlot_ls, tupF_e, lstF_e, tupK_e, dsK_e, datas_nil, datas_cons, vws_nil, vws_cons, vwsK_e, biF_e, biK_e, biM_e, rngF_e, rngK_e, rngM_e, itsK_e, callF_e, callK_e, callN_none, callN_some, argsOf_none, argsOf_zero, argsOf_succ, argL_e, noneO_e, someO_e, someK_e, someM_e, sliF_e, sliK_e, sliL1_e, sliL2_e, sliM_e, nxS_e, bkS_e, ctS_e, seqS_e, seqK_nx, seqK_rt, seqK_bk, seqK_ct, ifS_e, ifK_t, ifK_f, exS_e, exK_e, retS_e, retK_e, retL_e, retN_e, give_val, give_sl, giveSlot_fz, giveSlot_ls, take_tv, take_ts, take_f, takeK_e, nxK_e, setS_e, setK_e, setL2_e, asgS_e, asgK_e, asgL_e, nameG_e, nilG_e, consG_e, stS_e, stK_e, stL1_e, stL2_e, stL3_e, stM_e, intOf_e, setAt_e, setAtN_e, intAt_e, intAtM_e, augS_e, augK_e, augL2_e, augKey_e, augO_e, augL3_e, augP_e, augN_e, augN1_e, augN2_e, augN3_e, nilL_e, consL_e, consL1_e, consL2_e, consL3_e, parS_e, parK_e, putL_nil, putL_cons, whlK_t, whlK_f, whlL_nx, whlL_ct, whlL_bk, whlL_rt, forK1_e, forK2_nx, forK2_ct, forK2_bk, forK2_rt, forS_e, forK_e, itF_e, itK_e, itL_e, itM_e, items_tup, items_lst, items_str, compF_e, compK2_e, yesT_e, truth_bl, eqS_int, neS_int, ltS_int, gtS_int, leS_int, geS_int, addS_int, subS_int, mulS_int, divS_int, modS_int, powS_int, intS_int, idx_ls, idx_lst, idx_tup, idxM_e, idxD_e, atI0, atI1, atI2, atI3, slice_tup, slice_lst, ers_nil, ers_cons, ers_map, cat_lst, cat_tup, set_0, set_1, set_2, runK_rt, runK_nx, runL_e, lent_none, lent_some, wipe_n, wipe_c, back_n, back_c, of_some, putS, Option.map_some, List.set_cons_zero, List.set_cons_succ, List.map_cons, List.map_nil, List.length_cons, List.length_nil, List.length_set, List.mem_cons, List.not_mem_nil, or_false, Nat.reduceAdd, Nat.reduceLT, Nat.reduceEqDiff, List.nil_append, List.cons_append, List.replicate, Nat.reduceSub, not_false_eq_true, decide_true, Bool.and_self, Int.reduceLT, Int.reduceLE, e3, compK_e _ _ _ _ _ _ _ _ e4, e1, size_ok 4 (by decide)]
  refine ⟨_, ns.map fun i => if i < 0 then -i else i, rfl, ⟨0, 1234567891, 0, ?_, by decide, by decide, by decide⟩, by rw [List.length_map]; exact hl⟩
  unfold bagV
  rw [List.map_map]
  rfl
end Pf

/-! Pf15: what is told alike; some of several. -/
namespace Pf
open PySem PySem.Spec PyProof.Rows L2
mutual
/-- can be shown -/
def D.okS : D → Bool
  | .non => true
  | .bl _ => true
  | .int i => decide (i.natAbs.log2 < 1920)
  | .str x => x.cps.toList.all fun c => decide (c < 16 ^ 8)
  | .tup xs => D.okSs xs
  | .lst xs => D.okSs xs
def D.okSs : List D → Bool
  | [] => true
  | x :: xs => D.okS x && D.okSs xs
end
mutual
/-- no shorter than what is shown -/
def D.wid : D → Nat
  | .non => 4
  | .bl _ => 5
  | .int _ => 1921
  | .str x => 10 * x.length + 2
  | .tup xs => D.wids xs + 3
  | .lst xs => D.wids xs + 2
def D.wids : List D → Nat
  | [] => 0
  | x :: xs => D.wid x + 2 + D.wids xs
end
theorem textFrom_le : ∀ (ts : List Str) (k : Nat) (acc : Str), (textFrom k acc ts).length ≤ acc.length + piled ts
  | [], k, acc => by show acc.length ≤ _; omega
  | t :: r, k, acc => by
    have h := textFrom_le r (k + 1) (acc ++ (if k > 0 then ", " else "" : String) ++ t)
    show (textFrom (k + 1) (acc ++ (if k > 0 then ", " else "" : String) ++ t) r).length ≤ _
    have e : (acc ++ (if k > 0 then ", " else "" : String) ++ t).length = acc.length + (if k > 0 then 2 else 0) + t.length := by
      rw [strLen_append, strLen_append]
      by_cases hk : k > 0
      · rw [if_pos hk, if_pos hk]
        congr 1
      · rw [if_neg hk, if_neg hk]
        congr 1
    have e2 : (if k > 0 then 2 else 0 : Nat) ≤ 2 := by
      by_cases hk : k > 0
      · rw [if_pos hk]; exact Nat.le_refl _
      · rw [if_neg hk]; exact Nat.zero_le _
    rw [piled_cons]
    omega
theorem listText_le (ts : List Str) : (listText ts).length ≤ piled ts + 2 := by
  have h := textFrom_le ts 0 "["
  have e : (listText ts).length = (textFrom 0 "[" ts).length + 1 := by
    unfold listText
    rw [strLen_append]
    rfl
  have e2 : ("[" : Str).length = 1 := by decide +kernel
  omega
theorem tupleText_le (ts : List Str) : (tupleText ts).length ≤ piled ts + 3 := by
  have e : (tupleText ts).length ≤ 1 + (Str.join ", " ts).length + 2 := by
    unfold tupleText
    rw [strLen_append, strLen_append]
    have e1 : ("(" : Str).length = 1 := rfl
    have e3 : (",)" : Str).length = 2 := rfl
    have e4 : (")" : Str).length = 1 := rfl
    by_cases hk : (ts.length == 1) = true
    · rw [if_pos hk, e1, e3]; omega
    · rw [if_neg hk, e1, e4]; omega
  cases ts with
  | nil =>
    have : (Str.join ", " []).length = 0 := by decide +kernel
    omega
  | cons t ts =>
    have := join_length_add (t :: ts) (by simp)
    omega
mutual
theorem D.shown_le : ∀ d : D, d.okS = true → d.py.shown.length ≤ d.wid
  | .non, _ => by
    simp only [D.py, PyData.shown, D.wid]
    decide +kernel
  | .bl b, _ => by
    simp only [D.py, PyData.shown, D.wid]
    cases b <;> decide +kernel
  | .int i, h => by
    simp only [D.py, PyData.shown, D.wid]
    simp only [D.okS, decide_eq_true_eq] at h
    exact PyProof.Rows.int_text_len_1921 h
  | .str x, h => by
    simp only [D.py, PyData.shown, D.wid]
    simp only [D.okS, List.all_eq_true, decide_eq_true_eq] at h
    exact PySem.StrLaws.reprText_len x h
  | .tup xs, h => by
    simp only [D.py, PyData.shown, D.wid]
    simp only [D.okS] at h
    have := D.showns_le xs h
    have := tupleText_le (PyData.shownAll (D.pys xs))
    omega
  | .lst xs, h => by
    simp only [D.py, PyData.shown, D.wid]
    simp only [D.okS] at h
    have := D.showns_le xs h
    have := listText_le (PyData.shownAll (D.pys xs))
    omega
theorem D.showns_le : ∀ ds : List D, D.okSs ds = true → piled (PyData.shownAll (D.pys ds)) ≤ D.wids ds
  | [], _ => by simp only [D.pys, PyData.shownAll, D.wids]; exact Nat.le_refl _
  | x :: xs, h => by
    simp only [D.okSs, Bool.and_eq_true] at h
    simp only [D.pys, PyData.shownAll, D.wids, piled_cons]
    have := D.shown_le x h.1
    have := D.showns_le xs h.2
    omega
end
mutual
theorem D.showable : ∀ d : D, d.okS = true → d.py.showable = true
  | .non, _ => by simp only [D.py, PyData.showable]
  | .bl b, _ => by simp only [D.py, PyData.showable]
  | .int i, h => by
    simp only [D.py, PyData.showable]
    simpa only [D.okS] using h
  | .str x, _ => by simp only [D.py, PyData.showable]
  | .tup xs, h => by
    simp only [D.py, PyData.showable]
    exact D.showables xs (by simpa only [D.okS] using h)
  | .lst xs, h => by
    simp only [D.py, PyData.showable]
    exact D.showables xs (by simpa only [D.okS] using h)
theorem D.showables : ∀ ds : List D, D.okSs ds = true → PyData.showableAll (D.pys ds) = true
  | [], _ => by simp only [D.pys, PyData.showableAll]
  | x :: xs, h => by
    simp only [D.okSs, Bool.and_eq_true] at h
    simp only [D.pys, PyData.showableAll, D.showable x h.1, D.showables xs h.2, Bool.and_self]
end
theorem eqv_self (d : D) : D.eqv d d = true := PySem.SeqAt.eqv_refl_plain d.py d.plain
/-- told alike: shown, of a bounded depth -/
structure Told (d : D) : Prop where
  ok : d.okS = true
  wid : d.wid ≤ 10000000
  dep : d.dep ≤ 60
def alikeG : FS := (seqS (retS [] (boF false (two (eSlot 0) (eSlot 1) eqS) (two (biF (consA [] true (eSlot 0) nilA) reprS) (biF (consA [] true (eSlot 1) nilA) reprS) eqS)))
  nxS)
def alikeF : FV := runF 2 2 none alikeG
theorem eqS_self (d : D) (h : d.dep ≤ 60) : eqS (.fz d) (.fz d) = .ok (.fz (.bl true)) := by
  have e : depOk d d = true := decide_eq_true (by show min d.dep d.dep ≤ 60; omega)
  show gd (depOk d d) (OV.fz (.bl (D.eqv d d))) = _
  rw [e, eqv_self]
  rfl
theorem repr_ok (d : D) (h : Told d) : reprS [.fz d] = .ok (.fz (.str d.py.shown)) := by
  show gd (d.py.showable && decide (d.py.shown.length ≤ sizeLine) && decide (d.dep ≤ 60)) (OV.fz (.str d.py.shown)) = _
  rw [D.showable d h.ok, decide_eq_true (Nat.le_trans (D.shown_le d h.ok) (Nat.le_trans h.wid (by decide))), decide_eq_true h.dep]
  rfl
theorem dep_str (x : Str) : D.dep (.str x) = 0 := by
  unfold D.dep D.py
  simp [PyData.depth]
theorem alike_same (d : D) (h : Told d) : alikeF [.fz d, .fz d] = .ok (.fz (.bl true), .fz .non) := by
  unfold alikeF alikeG
  rw [runF_e]
  case h => rfl
  simp only [okb, badb, gdt, sl0, slS, eSlot_e, eSlotK_some, eLit_e, opd_val, opd_sl, vw_val, vw_sl, er_fz, er_ls, two_e, twoK_e, twoL_e, twoM_e, valK_e, tru_e, truK_e, truM_e, blK_e, boF_e, boK_e, boM_e, boN_tt, boN_tf, boN_ft, boN_ff, notF_e, notK_e, iteF_e, iteK_t, iteK_f, negF_e, negK_e, negM_e, nilA_e, consA_e, consA1_e, consA2_e, consA3_e, kept_t, kept_f, keptK_e, settle_val, settle_sl, frzSlot_fz, frzSlot_ls, tupF_e, lstF_e, tupK_e, dsK_e, datas_nil, datas_cons, vws_nil, vws_cons, vwsK_e, biF_e, biK_e, biM_e, rngF_e, rngK_e, rngM_e, itsK_e, callF_e, callK_e, callN_none, callN_some, argsOf_none, argsOf_zero, argsOf_succ, argL_e, noneO_e, someO_e, someK_e, someM_e, sliF_e, sliK_e, sliL1_e, sliL2_e, sliM_e, nxS_e, bkS_e, ctS_e, seqS_e, seqK_nx, seqK_rt, seqK_bk, seqK_ct, ifS_e, ifK_t, ifK_f, exS_e, exK_e, retS_e, retK_e, retL_e, retN_e, give_val, give_sl, giveSlot_fz, giveSlot_ls, take_tv, take_ts, take_f, takeK_e, nxK_e, setS_e, setK_e, setL2_e, asgS_e, asgK_e, asgL_e, nameG_e, nilG_e, consG_e, stS_e, stK_e, stL1_e, stL2_e, stL3_e, stM_e, intOf_e, setAt_e, setAtN_e, intAt_e, intAtM_e, augS_e, augK_e, augL2_e, augKey_e, augO_e, augL3_e, augP_e, augN_e, augN1_e, augN2_e, augN3_e, nilL_e, consL_e, consL1_e, consL2_e, consL3_e, parS_e, parK_e, putL_nil, putL_cons, whlK_t, whlK_f, whlL_nx, whlL_ct, whlL_bk, whlL_rt, forK1_e, forK2_nx, forK2_ct, forK2_bk, forK2_rt, forS_e, forK_e, itF_e, itK_e, itL_e, itM_e, items_tup, items_lst, items_str, compF_e, compK2_e, yesT_e, truth_bl, eqS_int, neS_int, ltS_int, gtS_int, leS_int, geS_int, addS_int, subS_int, mulS_int, divS_int, modS_int, powS_int, intS_int, idx_ls, idx_lst, idx_tup, idxM_e, idxD_e, atI0, atI1, atI2, atI3, slice_tup, slice_lst, ers_nil, ers_cons, ers_map, cat_lst, cat_tup, set_0, set_1, set_2, runK_rt, runK_nx, runL_e, lent_none, lent_some, wipe_n, wipe_c, back_n, back_c, of_some, putS, Option.map_some, List.set_cons_zero, List.set_cons_succ, List.map_cons, List.map_nil, List.length_cons, List.length_nil, List.length_set, List.mem_cons, List.not_mem_nil, or_false, Nat.reduceAdd, Nat.reduceLT, Nat.reduceEqDiff, List.nil_append, List.cons_append, List.replicate, Nat.reduceSub, not_false_eq_true, decide_true, Bool.and_self, Int.reduceLT, Int.reduceLE, eqS_self d h.dep, repr_ok d h, eqS_self (.str d.py.shown) (by rw [dep_str]; decide)]
/-! one of several -/
def someF : FV := runF 2 2 (some 0) (seqS (retS [0] (two (eSlot 1) (callF 2 (some 0) takeV (consA [0] true (eSlot 0) (consA [0] false (biF (consA [0] true (eSlot 1) nilA) lenS) nilA))) idxS))
  nxS)
theorem len_lst (ds : List D) (h : ds.length ≤ 1000000) : lenS [.fz (.lst ds)] = .ok (.fz (.int ds.length)) := rfl
theorem len_tup (ds : List D) (h : ds.length ≤ 1000000) : lenS [.fz (.tup ds)] = .ok (.fz (.int ds.length)) := rfl
theorem argL_bag (i : Nat) (m s p : Int) (ns : List Int) (ds : List D) : argL i (some (bagV m s p ns)) (some ds) = some (bagV m s p ns :: ds.map OV.fz, i) := rfl
theorem some_spec {ns : List Int} {b : OV} {ds : List D} (hl : ns.length ≤ 63) (hb : Bag ns b) (h0 : ds ≠ []) (h1 : ds.length ≤ 1000000) : ∃ d b', someF [b, .fz (.lst ds)] = .ok (.fz d, b') ∧ Bag ns b' ∧ d ∈ ds := by
  have hp : 0 < ds.length := List.length_pos_iff.mpr h0
  obtain ⟨v, b', e, hb', v0, v1⟩ := take_spec (many := ds.length) hl (by omega) (by
    have : (ds.length : Int).natAbs = ds.length := by simp
    rw [this]
    have h2 : ds.length < 2 ^ 9000 := Nat.lt_of_le_of_lt h1 (by decide +kernel)
    exact (Nat.log2_lt (by omega)).mpr h2) hb
  obtain ⟨m, s, p, rfl, _⟩ := hb
  unfold someF
  rw [runF_e]
  case h => rfl
  have hi : v.toNat < ds.length := by omega
  have e2 : atI ds v = some ds[v.toNat] := by rw [atI_lt v0 v1, List.getElem?_eq_getElem hi]
  simp only [okb, badb, gdt, sl0, slS, eSlot_e, eSlotK_some, eLit_e, opd_val, opd_sl, vw_val, vw_sl, er_fz, er_ls, two_e, twoK_e, twoL_e, twoM_e, valK_e, tru_e, truK_e, truM_e, blK_e, boF_e, boK_e, boM_e, boN_tt, boN_tf, boN_ft, boN_ff, notF_e, notK_e, iteF_e, iteK_t, iteK_f, negF_e, negK_e, negM_e, nilA_e, consA_e, consA1_e, consA2_e, consA3_e, kept_t, kept_f, keptK_e, settle_val, settle_sl, frzSlot_fz, frzSlot_ls, tupF_e, lstF_e, tupK_e, dsK_e, datas_nil, datas_cons, vws_nil, vws_cons, vwsK_e, biF_e, biK_e, biM_e, rngF_e, rngK_e, rngM_e, itsK_e, callF_e, callK_e, callN_none, callN_some, argsOf_none, argsOf_zero, argsOf_succ, argL_e, noneO_e, someO_e, someK_e, someM_e, sliF_e, sliK_e, sliL1_e, sliL2_e, sliM_e, nxS_e, bkS_e, ctS_e, seqS_e, seqK_nx, seqK_rt, seqK_bk, seqK_ct, ifS_e, ifK_t, ifK_f, exS_e, exK_e, retS_e, retK_e, retL_e, retN_e, give_val, give_sl, giveSlot_fz, giveSlot_ls, take_tv, take_ts, take_f, takeK_e, nxK_e, setS_e, setK_e, setL2_e, asgS_e, asgK_e, asgL_e, nameG_e, nilG_e, consG_e, stS_e, stK_e, stL1_e, stL2_e, stL3_e, stM_e, intOf_e, setAt_e, setAtN_e, intAt_e, intAtM_e, augS_e, augK_e, augL2_e, augKey_e, augO_e, augL3_e, augP_e, augN_e, augN1_e, augN2_e, augN3_e, nilL_e, consL_e, consL1_e, consL2_e, consL3_e, parS_e, parK_e, putL_nil, putL_cons, whlK_t, whlK_f, whlL_nx, whlL_ct, whlL_bk, whlL_rt, forK1_e, forK2_nx, forK2_ct, forK2_bk, forK2_rt, forS_e, forK_e, itF_e, itK_e, itL_e, itM_e, items_tup, items_lst, items_str, compF_e, compK2_e, yesT_e, truth_bl, eqS_int, neS_int, ltS_int, gtS_int, leS_int, geS_int, addS_int, subS_int, mulS_int, divS_int, modS_int, powS_int, intS_int, idx_ls, idx_lst, idx_tup, idxM_e, idxD_e, atI0, atI1, atI2, atI3, slice_tup, slice_lst, ers_nil, ers_cons, ers_map, cat_lst, cat_tup, set_0, set_1, set_2, runK_rt, runK_nx, runL_e, lent_none, lent_some, wipe_n, wipe_c, back_n, back_c, of_some, putS, Option.map_some, List.set_cons_zero, List.set_cons_succ, List.map_cons, List.map_nil, List.length_cons, List.length_nil, List.length_set, List.mem_cons, List.not_mem_nil, or_false, Nat.reduceAdd, Nat.reduceLT, Nat.reduceEqDiff, List.nil_append, List.cons_append, List.replicate, Nat.reduceSub, not_false_eq_true, decide_true, Bool.and_self, Int.reduceLT, Int.reduceLE, len_lst ds h1, argL_bag, callM_e, e, e2]
  exact ⟨_, _, rfl, hb', List.getElem_mem hi⟩
end Pf

/-! Pf16: methods of a slot's own list; sorted. -/
namespace Pf
open PySem PySem.Spec PyProof.Rows L2

/-- a method of a list that is changed where it stands: k of its items and of the data handed in gives the answer and the new items -/
def MthS (X : Cx) (id : String) (k : List OV → List D → Res (D × List OV)) : Prop :=
  ∀ (pins : List (Addr × Obj)) (s : Shared) (σ : L2.St) (F H : Hp) (a : Addr) (vs ws : List V) (us : List Value) (xs ys : List OV) (ds : List D) (d : D) (bs : List Addr) (Q : VK), Inv X pins σ H s → Same F H → H a = some (.lst vs) → Owns X.K F H xs vs bs → Vals ws us → Reps X.K F ds ws → k xs ds = .ok (d, ys) →
    (∀ z vs', Rep X.K F d z → Owns X.K F H ys vs' bs → Q z (upd H a (.lst vs'))) → wpAny (model X.prog X.w) X.A (call (.builtin id) (.ref a :: us)) (EP X pins σ Q) X.xe s
def mthF (i : Nat) (h : FA) (k : List OV → List D → Res (D × List OV)) : FP := fun τ => match slotAt τ i with
  | some (.ls _) => (h τ).bind fun (ps, τ1) => match slotAt τ1 i, datas ps with
    | some (.ls xs), some ds => (k xs ds).bind fun (d, ys) => .ok (.val (.fz d), τ1.set i (some (.ls ys)))
    | _, _ => .bad
  | _ => .bad
section
variable {X : Cx} {io : List Nat}
theorem reps_one {K : PySem.W.Frag} {F : Hp} {d : D} {ws : List V} (r : Reps K F [d] ws) : ∃ w, ws = [w] ∧ Rep K F d w := by
  rw [Reps] at r
  obtain ⟨w, us, rfl, q, rs⟩ := r
  rw [Reps] at rs
  subst rs
  exact ⟨w, rfl, q⟩
def appendM (xs : List OV) : List D → Res (D × List OV)
  | [d] => gd (decide (xs.length < sizeLine)) (.non, xs ++ [.fz d])
  | _ => .bad
theorem mth_append : MthS X "list.append" appendM := by
  intro pins s σ F H a vs ws us xs ys ds d bs Q I sm hH w rv r e q
  unfold appendM at e
  split at e
  · rename_i d0
    obtain ⟨hz, e⟩ := gd_ok e
    cases e
    obtain ⟨z, rfl, rz⟩ := reps_one r
    refine mt_append pins s σ H (.ref a) _ (.ref a) us Q I rfl rv ⟨a, vs, z, rfl, rfl, hH, by rw [← w.length]; exact of_decide_eq_true hz, q _ _ (by rw [Rep]) ?_⟩
    exact Owns.append_reps (Reps.cons rz Reps.nil) w
  · cases e
def extendM (xs : List OV) : List D → Res (D × List OV)
  | [.lst es] => gd (decide (xs.length + es.length ≤ sizeLine)) (.non, xs ++ es.map OV.fz)
  | _ => .bad
theorem mth_extend : MthS X "list.extend" extendM := by
  intro pins s σ F H a vs ws us xs ys ds d bs Q I sm hH w rv r e q
  unfold extendM at e
  split at e
  · rename_i es
    obtain ⟨hz, e⟩ := gd_ok e
    cases e
    have hz := of_decide_eq_true hz
    obtain ⟨z, rfl, rz⟩ := reps_one r
    rw [Rep] at rz
    obtain ⟨b, zs, rfl, l, rs⟩ := rz
    obtain ⟨u, rfl, ru⟩ := rv.one
    cases ru
    obtain ⟨z1, its, n, r1, hl, e1⟩ := I.lstM hH
    obtain ⟨z2, its2, n2, r2, hl2, e2⟩ := LsR.exact I (l.mono sm)
    have lx := w.length
    have lz := rs.length
    have hsz : its.toArray.size + its2.toArray.size ≤ sizeLine := by rw [List.size_toArray, List.size_toArray]; omega
    have short : ¬ (!its.toArray.isEmpty && Builtin.List.listTooLong (its.toArray.size + its2.toArray.size)) = true := by
      rw [notLongL hsz, Bool.and_false]; simp
    refine call_meets PySem.F.slot_list_extend ⟨_, e1, rfl⟩ PySem.F.entry_list_extend (PySem.F.args_list_extend_2 _ _)
      (AutoSeq1.list_extend_list_list_0 a its.toArray n b its2.toArray n2 short (by rw [List.size_toArray]; omega) (by omega)) ⟨e1, e2, ?_⟩
    exact ⟨.non, _, I.lset (its' := its ++ its2) hH e1 (by simp) (r1.append r2) (by rw [List.length_append]; omega), rfl, q _ _ (by rw [Rep]) (Owns.append_reps rs w)⟩
  · cases e
theorem Owns.insFz {K : PySem.W.Frag} {F H : Hp} {d : D} {v : V} (r : Rep K F d v) : ∀ {n : Nat} {os : List OV} {vs : List V} {bs : List Addr}, Owns K F H os vs bs → Owns K F H (os.take n ++ [.fz d] ++ os.drop n) (vs.take n ++ [v] ++ vs.drop n) bs
  | 0, os, vs, bs, h => by
    rw [List.take_zero, List.take_zero, List.drop_zero, List.drop_zero, List.nil_append, List.nil_append, List.singleton_append, List.singleton_append, Owns]
    exact ⟨v, vs, [], bs, rfl, rfl, Own.of_rep r, h, fun _ z => (nomatch z)⟩
  | n + 1, [], vs, bs, h => by
    rw [Owns] at h
    obtain ⟨rfl, rfl⟩ := h
    rw [List.take_nil, List.take_nil, List.drop_nil, List.drop_nil, List.append_nil, List.append_nil, List.nil_append, List.nil_append, Owns]
    refine ⟨v, [], [], [], rfl, rfl, Own.of_rep r, ?_, fun _ z => (nomatch z)⟩
    rw [Owns]; exact ⟨rfl, rfl⟩
  | n + 1, x :: xs, vs, bs, h => by
    rw [Owns] at h
    obtain ⟨w, ws, b1, b2, rfl, rfl, q, qs, m⟩ := h
    rw [List.take_succ_cons, List.take_succ_cons, List.drop_succ_cons, List.drop_succ_cons, List.cons_append, List.cons_append, List.cons_append, List.cons_append, Owns]
    exact ⟨w, _, b1, b2, rfl, rfl, q, Owns.insFz r qs, m⟩
def insertM (xs : List OV) : List D → Res (D × List OV)
  | [.int i, d] => gd (decide (0 ≤ i ∧ i < 2 ^ 62 ∧ xs.length < sizeLine)) (.non, xs.take i.toNat ++ [.fz d] ++ xs.drop i.toNat)
  | _ => .bad
theorem mth_insert : MthS X "list.insert" insertM := by
  intro pins s σ F H a vs ws us xs ys ds d bs Q I sm hH w rv r e q
  unfold insertM at e
  split at e
  · rename_i i d0
    obtain ⟨hz, e⟩ := gd_ok e
    cases e
    obtain ⟨h0, h1, h2⟩ := of_decide_eq_true hz
    rw [Reps] at r
    obtain ⟨z, zs, rfl, rz, rs⟩ := r
    obtain ⟨y, rfl, ry⟩ := reps_one rs
    rw [Rep] at rz
    subst rz
    have lx := w.length
    exact mt_insert pins s σ H (.ref a) _ (.ref a) us Q I rfl rv ⟨a, vs, i, y, rfl, rfl, hH, by omega, h0, by omega, q _ _ (by rw [Rep]) (w.insFz ry)⟩
  · cases e
theorem Owns.popFz {K : PySem.W.Frag} {F H : Hp} {d : D} : ∀ {os : List OV} {vs : List V} {bs : List Addr}, Owns K F H os vs bs → os[os.length - 1]? = some (.fz d) → ∃ v, vs[vs.length - 1]? = some v ∧ Rep K F d v ∧ Owns K F H os.dropLast vs.dropLast bs
  | [], _, _, _, e => by simp at e
  | [x], vs, bs, h, e => by
    rw [Owns] at h
    obtain ⟨w, ws, b1, b2, rfl, rfl, q, qs, m⟩ := h
    rw [Owns] at qs
    obtain ⟨rfl, rfl⟩ := qs
    have e : x = .fz d := by simpa using e
    subst e
    rw [Own.fz_iff] at q
    refine ⟨w, rfl, q.2, ?_⟩
    rw [q.1]
    show Owns K F H [] [] []
    rw [Owns]; exact ⟨rfl, rfl⟩
  | x :: y :: xs, vs, bs, h, e => by
    rw [Owns] at h
    obtain ⟨w, ws, b1, b2, rfl, rfl, q, qs, m⟩ := h
    have e2 : (y :: xs)[(y :: xs).length - 1]? = some (.fz d) := by simpa using e
    obtain ⟨v, e3, r, t⟩ := Owns.popFz qs e2
    cases ws with
    | nil => simp at e3
    | cons w2 ws =>
      refine ⟨v, by simpa using e3, r, ?_⟩
      rw [List.dropLast_cons₂, List.dropLast_cons₂, Owns]
      exact ⟨w, _, b1, b2, rfl, rfl, q, t, m⟩
def lastOf (xs : List OV) : Option OV := xs[xs.length - 1]?
def popM (xs : List OV) : List D → Res (D × List OV)
  | [] => match lastOf xs with
    | some (.fz d) => .ok (d, xs.dropLast)
    | _ => .bad
  | _ => .bad
theorem mth_pop : MthS X "list.pop" popM := by
  intro pins s σ F H a vs ws us xs ys ds d bs Q I sm hH w rv r e q
  unfold popM at e
  split at e
  · rw [Reps] at r
    subst r
    split at e
    · rename_i d0 hl
      cases e
      obtain ⟨v, ev, rz, t⟩ := w.popFz hl
      exact mt_pop pins s σ H (.ref a) _ (.ref a) us Q I rfl rv ⟨a, vs, v, rfl, rfl, hH, ev, q _ _ rz t⟩
    · cases e
  · cases e
theorem mth_open {id : String} {k : List OV → List D → Res (D × List OV)} {i : Nat} {h : FA} {σ : L2.St} {H : Hp} {Q : VK} (hm : MthS X id k) (w : rdP X.K io (mthF i h k) σ H Q) :
    rdP X.K io (eSlot i) σ H fun x H1 => tyV X.K "list" x H1 ∧ rdA X.K io h σ H1 fun ws H2 => ∃ F a vs xs ys ds d bs, x = .ref a ∧ Same F H2 ∧ H2 a = some (.lst vs) ∧ Owns X.K F H2 xs vs bs ∧ Reps X.K F ds ws ∧ k xs ds = .ok (d, ys) ∧ ∀ z vs', Rep X.K F d z → Owns X.K F H2 ys vs' bs → Q z (upd H2 a (.lst vs')) := by
  obtain ⟨C, F, fp, τ, p, τ', hio, R, e, q⟩ := w
  unfold mthF at e
  cases hs : slotAt τ i with
  | none => rw [hs] at e; cases e
  | some o =>
    cases o with
    | fz d => rw [hs] at e; cases e
    | ls xs0 =>
      rw [hs] at e
      obtain ⟨⟨ps, τ1⟩, e1, e⟩ := Res.bind_ok e
      refine ⟨C, F, fp, τ, .sl i, τ, hio, R, by unfold eSlot; rw [hs], fun F1 fp1 H1 x R1 s1 w1 => ?_⟩
      obtain ⟨a, vs0, bs0, hx, _, hH, _, _⟩ := R1.listSlot hs
      have hx' : σ[i]? = some (some x) := w1
      rw [hx] at hx'
      cases hx'
      refine ⟨.inl ⟨rfl, vs0, SqL.of hH⟩, C, F1, fp1, τ, ps, τ1, hio, R1, e1, fun F2 fp2 H2 ws R2 s2 w2 => ?_⟩
      dsimp only at e
      cases hs2 : slotAt τ1 i with
      | none => rw [hs2] at e; cases e
      | some o2 =>
        cases o2 with
        | fz d => rw [hs2] at e; cases e
        | ls xs =>
          cases hd : datas ps with
          | none => rw [hs2, hd] at e; cases e
          | some ds =>
            rw [hs2, hd] at e
            obtain ⟨⟨d, ys⟩, e3, e4⟩ := Res.bind_ok e
            cases e4
            obtain ⟨a2, vs, bs, hx2, hfp, hH2, hn, rs⟩ := R2.listSlot hs2
            have ea : some (some (V.ref a2)) = some (some (V.ref a)) := hx2.symm.trans hx
            cases ea
            refine ⟨F2, a, vs, xs, ys, ds, d, bs, rfl, R2.sub, hH2, rs, w2.datas hd, e3, fun z vs' rz t => ?_⟩
            have R3 := R2.write hs2 hfp t hn hx
            exact q F2 fp2 _ z R3 (s1.trans s2) ⟨[], rz.tmp⟩
theorem attr_no {o : Expr} {name : Str} {env : Env} {w : Sem Value} (h : ∃ x p, o = .Name x p) (hr : ∀ x p, o = .Name x p → attributeBase (.Name x p) name env (eval (.Name x p) env) = eval (.Name x p) env) : attributeBase o name env (eval o env) = eval o env := by
  obtain ⟨x, p, rfl⟩ := h
  exact hr x p rfl
/-- x.m(e, ..) -/
theorem xp_mth {id : String} {k : List OV → List D → Res (D × List OV)} {i : Nat} {x m : Str} {e : Expr} {es : List Expr} {h : FA} {p apos cpos : Pos} (slot : Slot "list" m id) (hty : typeOf (.builtin id) = pure (.type "method_descriptor")) (hm : MthS X id k) (ho : XP X io (.Name x p) (eSlot i)) (ha : XA X io (e :: es) h)
    (hn : (e :: es).all notStar = true) (hbase : attributeBase (.Name x p) m X.env (eval (.Name x p) X.env) = eval (.Name x p) X.env) (hline : (apos.endLine == cpos.line) = true) (hlen : decide ((e :: es).length < 30) = true) : XP X io (.Call (.Attribute (.Name x p) m apos) (e :: es) [] cpos) (mthF i h k) := by
  have hn' := hn
  rw [List.all_cons, Bool.and_eq_true] at hn'
  refine pe_weak (pe_bm (r := fun x ws H2 Q => ∃ F a vs xs ys ds d bs, x = .ref a ∧ Same F H2 ∧ H2 a = some (.lst vs) ∧ Owns X.K F H2 xs vs bs ∧ Reps X.K F ds ws ∧ k xs ds = .ok (d, ys) ∧ ∀ z vs', Rep X.K F d z → Owns X.K F H2 ys vs' bs → Q z (upd H2 a (.lst vs'))) PySem.F.plainAttrs_list slot hty ?_ ho ha hbase ?_ hline (star_cons hn'.1) (star_any hn'.2)) fun σ H Q w => mth_open hm w
  · intro pins s σ H x ws v us Q I rx rv hq
    obtain ⟨F, a, vs, xs, ys, ds, d, bs, rfl, sm, hH, w, r, e, q⟩ := hq
    cases rx
    exact hm pins s σ F H a vs ws us xs ys ds d bs Q I sm hH w rv r e q
  · rw [star_all hn, Bool.true_and]
    show (true && decide ((e :: es).length + 0 + 0 < 30)) = true
    simpa using hlen
/-- x.m() -/
theorem xp_mth0 {id : String} {k : List OV → List D → Res (D × List OV)} {i : Nat} {x m : Str} {p apos cpos : Pos} (slot : Slot "list" m id) (hty : typeOf (.builtin id) = pure (.type "method_descriptor")) (hm : MthS X id k) (ho : XP X io (.Name x p) (eSlot i))
    (hbase : attributeBase (.Name x p) m X.env (eval (.Name x p) X.env) = eval (.Name x p) X.env) (hline : (apos.endLine == cpos.line) = true) : XP X io (.Call (.Attribute (.Name x p) m apos) [] [] cpos) (mthF i nilA k) := by
  refine pe_weak (pe_bm0 (r := fun x ws H2 Q => ∃ F a vs xs ys ds d bs, x = .ref a ∧ Same F H2 ∧ H2 a = some (.lst vs) ∧ Owns X.K F H2 xs vs bs ∧ Reps X.K F ds ws ∧ k xs ds = .ok (d, ys) ∧ ∀ z vs', Rep X.K F d z → Owns X.K F H2 ys vs' bs → Q z (upd H2 a (.lst vs'))) PySem.F.plainAttrs_list slot hty ?_ ho hbase hline) fun σ H Q w => ?_
  · intro pins s σ H x ws v us Q I rx rv hq
    obtain ⟨F, a, vs, xs, ys, ds, d, bs, rfl, sm, hH, w, r, e, q⟩ := hq
    cases rx
    exact hm pins s σ F H a vs ws us xs ys ds d bs Q I sm hH w rv r e q
  · obtain ⟨C, F, fp, τ, p, τ', hio, R, e, q⟩ := mth_open hm w
    refine ⟨C, F, fp, τ, p, τ', hio, R, e, fun F1 fp1 H1 x R1 s1 w1 => ?_⟩
    obtain ⟨ty, C2, F2, fp2, τ2, ps, τ3, hio2, R2, e2, q2⟩ := q F1 fp1 H1 x R1 s1 w1
    cases e2
    exact ⟨ty, q2 F2 fp2 H1 [] R2 (Same.refl _) rfl⟩
end
end Pf

/-! Pf17: sorted; an item of a slot's list of lists takes one more. -/
namespace Pf
open PySem PySem.Spec PyProof.Rows L2

/-! ### sorted -/
def isTup1 : D → Bool
  | .tup (_ :: _) => true
  | _ => false
def isOther : D → Bool
  | .non => false
  | .tup _ => false
  | _ => true
def allAlike (ds : List D) : Bool := ds.all fun d => ds.all fun e => PySem.W.alike d.py e.py
def sortD (ds : List D) : List D := ds.mergeSort (PySem.W.dataLe false D.py)
def sortS : List OV → Res OV
  | [o] => match listOf o with
    | some ds => gd (decide (ds.length ≤ sizeLine) && (allAlike ds && ((ds.all isTup1 || ds.all isOther) && ds.all fun d => decide (d.dep ≤ 60)))) (.ls ((sortD ds).map OV.fz))
    | none => .bad
  | _ => .bad
section
variable {X : Cx}
theorem isTup1_py {d : D} (h : isTup1 d = true) : ∃ x r, d.py = .tuple (x :: r) := by
  unfold isTup1 at h
  split at h
  · rename_i x r
    exact ⟨x.py, D.pys r, by rw [D.py, D.pys]⟩
  · cases h
theorem isOther_py {d : D} (h : isOther d = true) : d.py ≠ .none ∧ ∀ xs, d.py ≠ .tuple xs := by
  cases d with
  | non => cases h
  | tup xs => cases h
  | bl b => rw [D.py]; exact ⟨by simp, by simp⟩
  | int i => rw [D.py]; exact ⟨by simp, by simp⟩
  | str x => rw [D.py]; exact ⟨by simp, by simp⟩
  | lst xs => rw [D.py]; exact ⟨by simp, by simp⟩
theorem each_of {K : PySem.W.Frag} {F : Hp} {R : Value → D → Prop} (h : ∀ v u d, Rep K F d v → L2.RelV v u → R u d) : ∀ {ds : List D} {vs : List V} {us : List Value}, Reps K F ds vs → Vals vs us → PySem.W.EachIs R us ds
  | [], vs, us, r, w => by
    rw [Reps] at r
    subst r
    cases w
    exact .nil
  | d :: ds, vs, us, r, w => by
    rw [Reps] at r
    obtain ⟨v, ws, rfl, q, qs⟩ := r
    cases w with
    | cons a b => exact .cons (h _ _ _ q a) (each_of h qs b)
theorem each_to {K : PySem.W.Frag} {F : Hp} : ∀ {ds : List D} {us : List Value}, PySem.W.EachIs (fun u d => ∃ v, Rep K F d v ∧ L2.RelV v u) us ds → ∃ vs, Reps K F ds vs ∧ Vals vs us
  | _, _, .nil => ⟨[], Reps.nil, .nil⟩
  | _, _, .cons ⟨v, q, r⟩ t => by
    obtain ⟨vs, qs, rs⟩ := each_to t
    exact ⟨v :: vs, Reps.cons q qs, .cons r rs⟩
theorem cs_sorted (hu : X.A.units + 65 < cLine) : CallS X (.builtin "sorted") sortS := by
  intro pins s σ F H vs us os r Q I sm rv wv e q
  unfold sortS at e
  split at e
  · rename_i o
    obtain ⟨v, rfl, w⟩ := wv.one
    cases hl : listOf o with
    | none => rw [hl] at e; cases e
    | some ds =>
      rw [hl] at e
      obtain ⟨hz, rfl⟩ := gd_ok e
      simp only [Bool.and_eq_true, Bool.or_eq_true, decide_eq_true_eq] at hz
      obtain ⟨hz, ha, hs, hd⟩ := hz
      obtain ⟨a, xs, rfl, l, rs⟩ := w.list sm hl
      obtain ⟨its, rr, pl, _⟩ := I.list l.sql
      rw [Vals.ref1 rv]
      have alike : PySem.W.AllAlike (ds.map D.py) := fun d h1 d' h2 => by
        obtain ⟨x, hx, rfl⟩ := List.mem_map.mp h1
        obtain ⟨y, hy, rfl⟩ := List.mem_map.mp h2
        exact List.all_eq_true.mp (List.all_eq_true.mp ha x hx) y hy
      have srt : PySem.W.Sortable (ds.map D.py) := by
        rcases hs with h | h
        · refine .inl fun d h1 => ?_
          obtain ⟨x, hx, rfl⟩ := List.mem_map.mp h1
          exact isTup1_py (List.all_eq_true.mp h x hx)
        · refine .inr fun d h1 => ?_
          obtain ⟨x, hx, rfl⟩ := List.mem_map.mp h1
          exact isOther_py (List.all_eq_true.mp h x hx)
      have deep : ∀ b, b ∈ ds → X.A.units + 2 + b.py.depth < cLine := fun b hb => by
        have : b.py.depth ≤ 60 := of_decide_eq_true (List.all_eq_true.mp hd b hb)
        omega
      have e1 : PySem.W.EachIs (fun u d => ∃ v, Rep X.K F d v ∧ L2.RelV v u) its ds := each_of (fun v u d h1 h2 => ⟨v, h1, h2⟩) rs rr
      have e2 : PySem.W.EachIs (fun u d => ∃ as, Reads s.heap u d.py as) its ds := each_of (fun v u d h1 h2 => h1.reads I sm h2) rs rr
      refine PySem.W.sorted_data pl.isList e1 e2 alike srt hz deep fun out hlen eo => ?_
      obtain ⟨ys, qs, vs'⟩ := each_to eo
      obtain ⟨ep, he⟩ := PyProof.Rows.sortedAll_at s.heap its out.toArray
      have hyl : ys.length ≤ sizeLine := by rw [vs'.length, hlen]; exact hz
      have hf : H (s.heap.objs.size + 1) = none := I.hok.fresh (Nat.le_succ _)
      exact ⟨.ref _, upd H (s.heap.objs.size + 1) (.lst ys), I.laid (t' := s.toks) (fun _ _ => PyProof.Rows.sortedAll_old) (Nat.le_succ _) ⟨hyl, out, ep, vs', he⟩, rfl, q _ _ _ (Grow.lst sm hf qs)⟩
  · cases e
end
end Pf

/-! Pf18: found[k].append(e) where found is a slot's list of lists. -/
namespace Pf
open PySem PySem.Spec PyProof.Rows L2
section
variable {K : PySem.W.Frag} {C : Fx} {F : Hp} {fp : Nat → List Addr} {τ : T} {σ : L2.St} {H : Hp}
/-- a list within what slot i owns is written -/
theorem Rel.writeIn {i : Nat} {o o' : OV} {b : Addr} {v : V} {vs : List V} (R : Rel K C F fp τ σ H) (e : slotAt τ i = some o) (hb : b ∈ fp i) (hv : σ[i]? = some (some v)) (w : Own K F (upd H b (.lst vs)) o' v (fp i)) :
    Rel K C F fp (τ.set i (some o')) σ (upd H b (.lst vs)) := by
  have il := slotAt_lt e
  have far : ∀ j, j ≠ i → ∀ c ∈ fp j, c ≠ b := fun j hj c hc z => hj (R.apart j i c hc (by rw [z]; exact hb))
  have kp : ∀ c u, c ≠ b → H c = some u → upd H b (.lst vs) c = some u := fun c u hc h => by rw [upd_ne hc]; exact h
  refine ⟨same_updF R.sub (R.own i b hb).1, R.old, fun c u h1 h2 => ?_, R.new, by rw [List.length_set]; exact R.len, fun j u e' => ?_, R.apart, R.own, fun j c hc => ?_, fun c hc => ?_, R.lent, R.ioc, fun t ht => ?_⟩
  · refine kp c u (fun z => ?_) (R.frame c u h1 h2)
    subst z
    rcases (R.own i c hb).2 with z | z
    · rw [z] at h1; cases h1
    · rw [z] at h2; cases h2
  · by_cases hj : j = i
    · subst hj
      rw [slotAt_set_same il] at e'
      cases e'
      exact ⟨v, hv, w⟩
    · rw [slotAt_set_ne (Ne.symm hj)] at e'
      obtain ⟨x, e1, q⟩ := R.slot j u e'
      exact ⟨x, e1, q.keep (Same.refl _) fun c hc y hy => kp c y (far j hj c hc) hy⟩
  · by_cases hcb : c = b
    · rw [hcb, upd_same]; simp
    · rw [upd_ne hcb]; exact R.lay j c hc
  · by_cases hcb : c = b
    · subst hcb; rw [upd_same] at hc; cases hc
    · rw [upd_ne hcb] at hc; exact R.stay c hc
  · obtain ⟨q, g⟩ := R.pend t ht
    have tb : ∀ c ∈ t.2.2, c ≠ b := fun c hc z => (g c hc).2.2 i (by rw [z]; exact hb)
    exact ⟨q.keep (Same.refl _) fun c hc u hu => kp c u (tb c hc) hu, fun c hc => ⟨(g c hc).1, by rw [upd_ne (tb c hc)]; exact (g c hc).2.1, (g c hc).2.2⟩⟩
theorem Owns.inner {ys : List OV} : ∀ {xs : List OV} {vs : List V} {bs : List Addr} {j : Nat}, Owns K F H xs vs bs → xs[j]? = some (.ls ys) → ∃ b ws, vs[j]? = some (.ref b) ∧ b ∈ bs ∧ H b = some (.lst ws) ∧ ws.length = ys.length ∧
    ∀ z d, Rep K F d z → Owns K F (upd H b (.lst (ws ++ [z]))) (xs.set j (.ls (ys ++ [.fz d]))) vs bs
  | [], _, _, _, _, e => by simp at e
  | x :: xs, vs, bs, 0, h, e => by
    rw [Owns] at h
    obtain ⟨v, us, b1, b2, rfl, rfl, q, qs, m⟩ := h
    have e : x = .ls ys := by simpa using e
    subst e
    have q' := q
    rw [Own] at q'
    obtain ⟨b, ws, cs, rfl, rfl, hH, hn, rs⟩ := q'
    refine ⟨b, ws, rfl, by simp, hH, rs.length.symm, fun z d rz => ?_⟩
    rw [List.set_cons_zero, Owns]
    refine ⟨.ref b, us, b :: cs, b2, rfl, rfl, ?_, qs.keep (Same.refl _) fun c hc u hu => ?_, m⟩
    · rw [Own]
      refine ⟨b, ws ++ [z], cs, rfl, rfl, upd_same, hn, (Owns.append_reps (Reps.cons rz Reps.nil) rs).keep (Same.refl _) fun c hc u hu => ?_⟩
      rw [upd_ne fun y => hn (by rw [← y]; exact hc)]; exact hu
    · rw [upd_ne fun y => m b List.mem_cons_self (by rw [← y]; exact hc)]; exact hu
  | x :: xs, vs, bs, j + 1, h, e => by
    rw [Owns] at h
    obtain ⟨v, us, b1, b2, rfl, rfl, q, qs, m⟩ := h
    obtain ⟨b, ws, e1, hb, hH, hl, g⟩ := Owns.inner (j := j) qs (by simpa using e)
    refine ⟨b, ws, by simpa using e1, List.mem_append_right _ hb, hH, hl, fun z d rz => ?_⟩
    rw [List.set_cons_succ, Owns]
    refine ⟨v, us, b1, b2, rfl, rfl, q.keep (Same.refl _) fun c hc u hu => ?_, g z d rz, m⟩
    rw [upd_ne fun y => m c hc (by rw [y]; exact hb)]; exact hu
end
/-- quiet: nothing of the slots is otherwise behind it -/
def rdQ (K : PySem.W.Frag) (io : List Nat) (q : T → Option D) : TE := fun σ H Q => ∃ C F fp τ d, C.ios.map (·.1) = io ∧ Rel K C F fp τ σ H ∧ q τ = some d ∧ ∀ F' H' v, Rel K C F' fp τ σ H' → Same F F' → Same H H' → Rep K F' d v → Q v H'
def XQ (X : Cx) (io : List Nat) (e : Expr) (q : T → Option D) : Prop := PE X e (rdQ X.K io q)
def fzOf : Option OV → Option D
  | some (.fz d) => some d
  | _ => none
theorem fzOf_ok {o : Option OV} {d : D} (h : fzOf o = some d) : o = some (.fz d) := by
  unfold fzOf at h
  split at h
  · cases h; rfl
  · cases h
def qSlot (i : Nat) : T → Option D := fun τ => fzOf (slotAt τ i)
def qLit (d : D) : T → Option D := fun _ => some d
def nappF (i : Nat) (qi qa : T → Option D) : FP := fun τ => match slotAt τ i, qi τ, qa τ with
  | some (.ls xs), some (.int k), some d => match ixN xs.length k with
    | some j => match xs[j]? with
      | some (.ls ys) => if ys.length < sizeLine then .ok (.val (.fz .non), τ.set i (some (.ls (xs.set j (.ls (ys ++ [.fz d])))))) else .bad
      | _ => .bad
    | none => .bad
  | _, _, _ => .bad
section
variable {X : Cx} {io : List Nat} {pos : Pos}
theorem xq_slot {i : Nat} {x : Str} (hN : X.N[i]? = some x) (hv : Vis X.env.scope x) (hd : (x == ("__debug__" : Str)) = false) (hcd : (x == ("__classdict__" : Str)) = false) : XQ X io (.Name x pos) (qSlot i) := by
  refine pe_weak (pe_var hN hv hd hcd) fun σ H Q ⟨C, F, fp, τ, d, hio, R, e, q⟩ => ?_
  obtain ⟨v, e1, w⟩ := R.slot i _ (fzOf_ok e)
  rw [Own.fz_iff] at w
  exact ⟨v, e1, q F H v R (Same.refl _) (Same.refl _) w.2⟩
theorem xq_int {i : Int} {j : Nat} : XQ X io (.Constant (.int i) j pos) (qLit (.int i)) := pe_weak pe_int fun σ H Q ⟨C, F, fp, τ, d, hio, R, e, q⟩ => by
  cases e
  exact q F H _ R (Same.refl _) (Same.refl _) (by rw [Rep])
theorem napp_open {i : Nat} {qi qa : T → Option D} {σ : L2.St} {H : Hp} {Q : VK} (w : rdP X.K io (nappF i qi qa) σ H Q) :
    tBM X.K "list" rAppend (tOp (rIxL X.K) (rdP X.K io (eSlot i)) (rdQ X.K io qi)) (tCons (rdQ X.K io qa) tNil) σ H Q := by
  obtain ⟨C, F, fp, τ, p, τ', hio, R, e, q⟩ := w
  unfold nappF at e
  split at e
  · rename_i xs k d hs hi ha
    split at e
    · rename_i j hj
      split at e
      · rename_i ys hy
        split at e
        · rename_i hz
          cases e
          refine ⟨C, F, fp, τ, .sl i, τ, hio, R, by unfold eSlot; rw [hs], fun F1 fp1 H1 x R1 s1 w1 => ?_⟩
          refine ⟨C, F1, fp1, τ, .int k, hio, R1, hi, fun F2 H2 y R2 s2 g2 ry => ?_⟩
          rw [Rep] at ry
          obtain ⟨a, vs, bs, hx, hfp, hH, hn, rs⟩ := R2.listSlot hs
          have hx' : σ[i]? = some (some x) := w1
          rw [hx] at hx'
          cases hx'
          obtain ⟨b, ws, e1, hb, hHb, hl, g⟩ := rs.inner hy
          have hat : atI vs k = some (.ref b) := by
            unfold atI
            rw [← rs.length, hj]
            exact e1
          refine ⟨a, vs, k, .ref b, rfl, ry, SqL.of hH, hat, .inl ⟨rfl, ws, SqL.of hHb⟩, C, F2, fp1, τ, d, hio, R2, ha, fun F3 H3 z R3 s3 g3 rz => ?_⟩
          obtain ⟨a3, vs3, bs3, hx3, hfp3, hH3, hn3, rs3⟩ := R3.listSlot hs
          have ea : some (some (V.ref a3)) = some (some (V.ref a)) := hx3.symm.trans hx
          cases ea
          have ev := g3 a _ hH
          rw [hH3] at ev
          cases ev
          have efp : bs3 = bs := by
            rw [hfp] at hfp3
            cases hfp3
            rfl
          subst efp
          obtain ⟨b3, ws3, e3, hb3, hHb3, hl3, gg⟩ := rs3.inner hy
          rw [e1] at e3
          cases e3
          have hbi : b ∈ fp1 i := by rw [hfp]; exact List.mem_cons_of_mem _ hb
          have hba : b ≠ a := fun z => hn (by rw [← z]; exact hb)
          refine ⟨b, ws3, z, rfl, rfl, hHb3, by rw [hl3]; exact hz, ?_⟩
          have ow : Own X.K F3 (upd H3 b (.lst (ws3 ++ [z]))) (.ls (xs.set j (.ls (ys ++ [.fz d])))) (.ref a) (fp1 i) := by
            rw [Own, hfp]
            exact ⟨a, vs, _, rfl, rfl, by rw [upd_ne (Ne.symm hba)]; exact hH3, hn3, gg z d rz⟩
          have R4 := R3.writeIn hs hbi hx ow
          exact q F3 fp1 _ .non R4 ((s1.trans s2).trans s3) (((grow_non R4.sub).rel R4).2)
        · cases e
      · cases e
    · cases e
  · cases e
/-- found[k].append(e) -/
theorem xp_napp {i : Nat} {x : Str} {ek ea : Expr} {qi qa : T → Option D} {p ipos apos cpos : Pos} (ho : XP X io (.Name x p) (eSlot i)) (hi : XQ X io ek qi) (hx : noSlice ek = true) (hn : notStar ea = true) (ha : XQ X io ea qa)
    (hbase : attributeBase (.Subscript (.Name x p) ek ipos) "append" X.env (eval (.Subscript (.Name x p) ek ipos) X.env) = eval (.Subscript (.Name x p) ek ipos) X.env) (hline : (apos.endLine == cpos.line) = true) :
    XP X io (.Call (.Attribute (.Subscript (.Name x p) ek ipos) "append" apos) [ea] [] cpos) (nappF i qi qa) := by
  have hall : [ea].all notStar = true := by rw [List.all_cons, hn]; rfl
  refine pe_weak (pe_bm PySem.F.plainAttrs_list PySem.F.slot_list_append PySem.F.type_list_append mt_append (pe_ix ix_list ho hi (plainIx hx)) (pa_cons ha pa_nil (star_cons hn)) hbase ?_ hline (star_cons hn) rfl) fun σ H Q w => napp_open w
  rw [star_all hall, Bool.true_and]
  rfl
end
end Pf

/-! Pf19: list(range(..)); the new rules by a context's card. -/
namespace Pf
open PySem PySem.Spec PyProof.Rows L2
theorem reps_range {K : PySem.W.Frag} {F : Hp} {n : Int} : Reps K F (rangeL 0 n.toNat 1) (rgV 0 n) := by
  unfold rangeL rgV
  rw [Int.sub_zero]
  generalize List.range n.toNat = l
  induction l with
  | nil => exact Reps.nil
  | cons i l ih => exact Reps.cons (by rw [Rep, Int.mul_one]) ih
def rgOk (n : Int) : Bool := decide (-1000000 ≤ n ∧ n ≤ 1000000)
def rgLM (mk : List D → OV) (τ : T) : Option OV → Res (Pre × T)
  | some (.fz (.int n)) => gd (rgOk n) (.val (mk (rangeL 0 n.toNat 1)), τ)
  | _ => .bad
def rgLK (mk : List D → OV) : Pre × T → Res (Pre × T) := fun (p, τ) => rgLM mk τ (vw τ (opd p))
/-- list(range(e)), tuple(range(e)) -/
def rgLF (mk : List D → OV) (f : FP) : FP := fun τ => (f τ).bind (rgLK mk)
def mkL (ds : List D) : OV := .ls (ds.map OV.fz)
def mkT (ds : List D) : OV := .fz (.tup ds)
theorem rgLF_e (mk : List D → OV) (f : FP) (τ : T) : rgLF mk f τ = (f τ).bind (rgLK mk) := (rfl)
theorem rgLK_e (mk : List D → OV) (p : Pre) (τ : T) : rgLK mk (p, τ) = rgLM mk τ (vw τ (opd p)) := (rfl)
theorem rgLM_e (mk : List D → OV) (τ : T) (n : Int) : rgLM mk τ (some (.fz (.int n))) = gd (rgOk n) (.val (mk (rangeL 0 n.toNat 1)), τ) := (rfl)
section
variable {X : Cx} {io : List Nat} {pos p p2 pos2 : Pos} {a : Expr} {f : FP}
theorem rgL_open {mk : List D → OV} {σ : L2.St} {H : Hp} {Q : VK} (w : rdP X.K io (rgLF mk f) σ H Q) : rdP X.K io f σ H fun x H1 => ∃ (F1 : Hp) (n : Int), x = .int n ∧ RgOk 0 n ∧ Same F1 H1 ∧ ∀ z F2 H2, Grow X.K F1 H1 (mk (rangeL 0 n.toNat 1)) z F2 H2 → Q z H2 := by
  obtain ⟨C, F, fp, τ, p, τ', hio, R, e, q⟩ := w
  obtain ⟨⟨p1, τ1⟩, e1, e⟩ := Res.bind_ok e
  refine ⟨C, F, fp, τ, p1, τ1, hio, R, e1, fun F1 fp1 H1 v R1 s1 w1 => ?_⟩
  obtain ⟨F2, R2, s2, w2⟩ := R1.opd w1
  have e : rgLM mk τ1 (vw τ1 (opd p1)) = .ok (p, τ') := e
  unfold rgLM at e
  split at e
  · rename_i n hx
    obtain ⟨hz, e⟩ := gd_ok e
    cases e
    have hz := of_decide_eq_true hz
    refine ⟨F2, n, (R2.vw w2 hx).int, ⟨by omega, by omega, by omega, by omega, by omega⟩, R2.sub, fun z F3 H3 g => ?_⟩
    obtain ⟨R3, t⟩ := g.rel R2
    exact q F3 fp1 H3 z R3 ((s1.trans s2).trans g.frozen) t
  · cases e
theorem xp_listRg (hc : X.calm = true) (hg : Gl X "list") (hm : X.mg "list" = none) (hg2 : Gl X "range") (hm2 : X.mg "range" = none) (hn : notStar a = true) (ha : XP X io a f) : XP X io (.Call (.Name "list" p) [.Call (.Name "range" p2) [a] [] pos2] [] pos) (rgLF mkL f) := by
  refine pe_weak (pe_listRg hc hg hm (prg_1 hg2 hm2 ha (star_cons hn)) rfl) fun σ H Q w => ?_
  obtain ⟨C, F, fp, τ, p, τ', hio, R, e, q⟩ := rgL_open w
  refine ⟨C, F, fp, τ, p, τ', hio, R, e, fun F1 fp1 H1 v R1 s1 w1 => ?_⟩
  obtain ⟨F2, n, hv, ok, sm, g⟩ := q F1 fp1 H1 v R1 s1 w1
  exact ⟨n, hv, ok, fun r hr => g _ _ _ (Grow.lst sm hr reps_range)⟩
theorem xp_tupRg (hc : X.calm = true) (hg : Gl X "tuple") (hm : X.mg "tuple" = none) (hg2 : Gl X "range") (hm2 : X.mg "range" = none) (hn : notStar a = true) (ha : XP X io a f) : XP X io (.Call (.Name "tuple" p) [.Call (.Name "range" p2) [a] [] pos2] [] pos) (rgLF mkT f) := by
  refine pe_weak (pe_tupRg hc hg hm (prg_1 hg2 hm2 ha (star_cons hn)) rfl) fun σ H Q w => ?_
  obtain ⟨C, F, fp, τ, p, τ', hio, R, e, q⟩ := rgL_open w
  refine ⟨C, F, fp, τ, p, τ', hio, R, e, fun F1 fp1 H1 v R1 s1 w1 => ?_⟩
  obtain ⟨F2, n, hv, ok, sm, g⟩ := q F1 fp1 H1 v R1 s1 w1
  exact ⟨n, hv, ok, fun r hr => g _ _ _ (Grow.tup sm hr reps_range)⟩
end
section
variable {X : Cx} {c : Cd} {k : Nat} {io : List Nat} {pos p apos cpos ipos : Pos} {e ek ea : Expr} {es : List Expr} {h : FA} {i : Nat} {x : Str} {qi qa : T → Option D}
theorem Bd.qslot (B : Bd X c k) (h : slotC c.N c.sc i x = true) : XQ X io (.Name x pos) (qSlot i) := by
  unfold slotC at h
  simp only [Bool.and_eq_true, decide_eq_true_eq, Bool.not_eq_true'] at h
  exact xq_slot (by rw [B.N]; exact h.1) (B.vis h.2.1) h.2.2.1 h.2.2.2
theorem Bd.append (B : Bd X c k) (hs : slotC c.N c.sc i x = true) (hn : (e :: es).all notStar = true) (hbase : attributeBase (.Name x p) "append" X.env (eval (.Name x p) X.env) = eval (.Name x p) X.env) (hline : (apos.endLine == cpos.line) = true) (hlen : decide ((e :: es).length < 30) = true) (ha : XA X io (e :: es) h) :
    XP X io (.Call (.Attribute (.Name x p) "append" apos) (e :: es) [] cpos) (mthF i h appendM) := xp_mth PySem.F.slot_list_append PySem.F.type_list_append mth_append (B.slot hs) ha hn hbase hline hlen
theorem Bd.extend (B : Bd X c k) (hs : slotC c.N c.sc i x = true) (hn : (e :: es).all notStar = true) (hbase : attributeBase (.Name x p) "extend" X.env (eval (.Name x p) X.env) = eval (.Name x p) X.env) (hline : (apos.endLine == cpos.line) = true) (hlen : decide ((e :: es).length < 30) = true) (ha : XA X io (e :: es) h) :
    XP X io (.Call (.Attribute (.Name x p) "extend" apos) (e :: es) [] cpos) (mthF i h extendM) := xp_mth PySem.F.slot_list_extend PySem.F.type_list_extend mth_extend (B.slot hs) ha hn hbase hline hlen
theorem Bd.insert (B : Bd X c k) (hs : slotC c.N c.sc i x = true) (hn : (e :: es).all notStar = true) (hbase : attributeBase (.Name x p) "insert" X.env (eval (.Name x p) X.env) = eval (.Name x p) X.env) (hline : (apos.endLine == cpos.line) = true) (hlen : decide ((e :: es).length < 30) = true) (ha : XA X io (e :: es) h) :
    XP X io (.Call (.Attribute (.Name x p) "insert" apos) (e :: es) [] cpos) (mthF i h insertM) := xp_mth PySem.F.slot_list_insert PySem.F.type_list_insert mth_insert (B.slot hs) ha hn hbase hline hlen
theorem Bd.pop0 (B : Bd X c k) (hs : slotC c.N c.sc i x = true) (hbase : attributeBase (.Name x p) "pop" X.env (eval (.Name x p) X.env) = eval (.Name x p) X.env) (hline : (apos.endLine == cpos.line) = true) :
    XP X io (.Call (.Attribute (.Name x p) "pop" apos) [] [] cpos) (mthF i nilA popM) := xp_mth0 PySem.F.slot_list_pop PySem.F.type_list_pop mth_pop (B.slot hs) hbase hline
theorem Bd.napp (B : Bd X c k) (hs : slotC c.N c.sc i x = true) (hx : noSlice ek = true) (hn : notStar ea = true) (hbase : attributeBase (.Subscript (.Name x p) ek ipos) "append" X.env (eval (.Subscript (.Name x p) ek ipos) X.env) = eval (.Subscript (.Name x p) ek ipos) X.env) (hline : (apos.endLine == cpos.line) = true) (hi : XQ X io ek qi) (ha : XQ X io ea qa) :
    XP X io (.Call (.Attribute (.Subscript (.Name x p) ek ipos) "append" apos) [ea] [] cpos) (nappF i qi qa) := xp_napp (B.slot hs) hi hx hn ha hbase hline
theorem Bd.sorted (B : Bd X c k) (hg : freeC c.sc "sorted" = true) (hm : c.mg "sorted" = none) (hs : (e :: es).all notStar = true) (ha : XA X io (e :: es) h) : XP X io (.Call (.Name "sorted" p) (e :: es) [] pos) (biF h sortS) := xp_callB (B.bltn hg hm rfl) (cs_sorted B.units) hs ha
theorem Bd.listRg {a : Expr} {p2 pos2 : Pos} {f : FP} (B : Bd X c k) (hg : gloC c.sc "list" = true) (hm : c.mg "list" = none) (hg2 : gloC c.sc "range" = true) (hm2 : c.mg "range" = none) (hn : notStar a = true) (ha : XP X io a f) : XP X io (.Call (.Name "list" p) [.Call (.Name "range" p2) [a] [] pos2] [] pos) (rgLF mkL f) :=
  xp_listRg B.calm (B.glo hg).1 (by rw [B.mg]; exact hm) (B.glo hg2).1 (by rw [B.mg]; exact hm2) hn ha
theorem Bd.tupRg {a : Expr} {p2 pos2 : Pos} {f : FP} (B : Bd X c k) (hg : gloC c.sc "tuple" = true) (hm : c.mg "tuple" = none) (hg2 : gloC c.sc "range" = true) (hm2 : c.mg "range" = none) (hn : notStar a = true) (ha : XP X io a f) : XP X io (.Call (.Name "tuple" p) [.Call (.Name "range" p2) [a] [] pos2] [] pos) (rgLF mkT f) :=
  xp_tupRg B.calm (B.glo hg).1 (by rw [B.mg]; exact hm) (B.glo hg2).1 (by rw [B.mg]; exact hm2) hn ha
end
end Pf

/-! Pf20: step rules of the methods; sorted ints. -/
namespace Pf
open PySem PySem.Spec PyProof.Rows L2
def mthN (i : Nat) (τ : T) : D × List OV → Res (Pre × T) := fun (d, ys) => .ok (.val (.fz d), τ.set i (some (.ls ys)))
def mthM (i : Nat) (k : List OV → List D → Res (D × List OV)) (τ : T) : Option OV → Option (List D) → Res (Pre × T)
  | some (.ls xs), some ds => (k xs ds).bind (mthN i τ)
  | _, _ => .bad
def mthK (i : Nat) (k : List OV → List D → Res (D × List OV)) : List Pre × T → Res (Pre × T) := fun (ps, τ) => mthM i k τ (slotAt τ i) (datas ps)
def mthL (i : Nat) (h : FA) (k : List OV → List D → Res (D × List OV)) (τ : T) : Option OV → Res (Pre × T)
  | some (.ls _) => (h τ).bind (mthK i k)
  | _ => .bad
theorem mthF_e (i : Nat) (h : FA) (k : List OV → List D → Res (D × List OV)) (τ : T) : mthF i h k τ = mthL i h k τ (slotAt τ i) := by
  unfold mthF mthL
  cases slotAt τ i with
  | none => rfl
  | some o =>
    cases o with
    | fz d => rfl
    | ls xs =>
      show (h τ).bind _ = (h τ).bind _
      congr 1
theorem mthL_e (i : Nat) (h : FA) (k : List OV → List D → Res (D × List OV)) (τ : T) (xs : List OV) : mthL i h k τ (some (.ls xs)) = (h τ).bind (mthK i k) := (rfl)
theorem mthK_e (i : Nat) (k : List OV → List D → Res (D × List OV)) (ps : List Pre) (τ : T) : mthK i k (ps, τ) = mthM i k τ (slotAt τ i) (datas ps) := (rfl)
theorem mthM_e (i : Nat) (k : List OV → List D → Res (D × List OV)) (τ : T) (xs : List OV) (ds : List D) : mthM i k τ (some (.ls xs)) (some ds) = (k xs ds).bind (mthN i τ) := (rfl)
theorem mthN_e (i : Nat) (τ : T) (d : D) (ys : List OV) : mthN i τ (d, ys) = .ok (.val (.fz d), τ.set i (some (.ls ys))) := (rfl)
theorem append_ok (ds : List D) (d : D) (h : ds.length ≤ 1000000) : appendM (ds.map OV.fz) [d] = .ok (.non, (ds ++ [d]).map OV.fz) := by
  unfold appendM
  dsimp only
  have h2 : (2000000 : Nat) ≤ sizeLine := by decide
  rw [decide_eq_true (by rw [List.length_map]; omega), gdt, List.map_append]
  rfl
theorem extend_ok (ds es : List D) (h : ds.length + es.length ≤ 1000000) : extendM (ds.map OV.fz) [.lst es] = .ok (.non, (ds ++ es).map OV.fz) := by
  unfold extendM
  dsimp only
  have h2 : (2000000 : Nat) ≤ sizeLine := by decide
  rw [decide_eq_true (by rw [List.length_map]; omega), gdt, List.map_append]
theorem insert_ok (ds : List D) (d : D) (i : Int) (h0 : 0 ≤ i) (h1 : i ≤ 1000000) (h : ds.length ≤ 1000000) : insertM (ds.map OV.fz) [.int i, d] = .ok (.non, (ds.take i.toNat ++ [d] ++ ds.drop i.toNat).map OV.fz) := by
  unfold insertM
  dsimp only
  have h2 : (2000000 : Nat) ≤ sizeLine := by decide
  rw [decide_eq_true (by rw [List.length_map]; omega), gdt]
  simp
def nappN (i : Nat) (xs : List OV) (j : Nat) (d : D) (τ : T) : Option OV → Res (Pre × T)
  | some (.ls ys) => if ys.length < sizeLine then .ok (.val (.fz .non), τ.set i (some (.ls (xs.set j (.ls (ys ++ [.fz d])))))) else .bad
  | _ => .bad
def nappK (i : Nat) (τ : T) : Option OV → Option D → Option D → Res (Pre × T)
  | some (.ls xs), some (.int k), some d => match ixN xs.length k with
    | some j => nappN i xs j d τ xs[j]?
    | none => .bad
  | _, _, _ => .bad
theorem napp_e (i : Nat) (qi qa : T → Option D) (τ : T) : nappF i qi qa τ = nappK i τ (slotAt τ i) (qi τ) (qa τ) := by
  unfold nappF nappK
  generalize slotAt τ i = a
  generalize qi τ = b
  generalize qa τ = c
  cases a with
  | none => rfl
  | some o =>
    cases o with
    | fz d => rfl
    | ls xs =>
      cases b with
      | none => rfl
      | some x =>
        cases x with
        | int k =>
          cases c with
          | none => rfl
          | some d =>
            dsimp only
            cases ixN xs.length k with
            | none => rfl
            | some j =>
              dsimp only
              cases xs[j]? with
              | none => rfl
              | some o => cases o <;> rfl
        | _ => rfl
theorem nappK_e (i : Nat) (τ : T) (xs : List OV) (k : Nat) (ys : List OV) (d : D) (hk : k < xs.length) (hy : xs[k]? = some (.ls ys)) (hz : ys.length ≤ 1000000) : nappK i τ (some (.ls xs)) (some (.int k)) (some d) = .ok (.val (.fz .non), τ.set i (some (.ls (xs.set k (.ls (ys ++ [.fz d])))))) := by
  have h2 : (2000000 : Nat) ≤ sizeLine := by decide
  have e : ixN xs.length (k : Int) = some k := by
    unfold ixN
    rw [if_pos (by omega), if_pos (by omega)]
    rfl
  show (match ixN xs.length (k : Int) with | some j => nappN i xs j d τ xs[j]? | none => .bad) = _
  rw [e]
  show nappN i xs k d τ xs[k]? = _
  rw [hy]
  show (if ys.length < sizeLine then _ else Res.bad) = _
  rw [if_pos (by omega)]
theorem qSlot_e (i : Nat) (τ : T) : qSlot i τ = fzOf (slotAt τ i) := (rfl)
theorem fzOf_e (d : D) : fzOf (some (.fz d)) = some d := (rfl)
/-! sorted ints -/
theorem le_int (a b : Int) : PySem.W.dataLe false D.py (.int a) (.int b) = decide (a ≤ b) := by
  have h := PySem.W.dataLt_int b a
  show (!PySem.W.dataLt (D.py (.int b)) (D.py (.int a))) = _
  simp only [D.py, h]
  by_cases hb : b < a
  · rw [decide_eq_true hb, decide_eq_false (by omega)]; rfl
  · rw [decide_eq_false hb, decide_eq_true (by omega)]; rfl
theorem sortD_ints (l : List Int) : sortD (l.map D.int) = (l.mergeSort fun a b => decide (a ≤ b)).map D.int := by
  unfold sortD
  exact (List.map_mergeSort fun a _ b _ => (le_int a b).symm).symm
theorem sort_perm (l : List Int) : (l.mergeSort fun a b => decide (a ≤ b)).Perm l := List.mergeSort_perm _ _
theorem sort_sorted (l : List Int) : (l.mergeSort fun a b => decide (a ≤ b)).Pairwise fun a b => decide (a ≤ b) = true :=
  List.pairwise_mergeSort (fun a b c h1 h2 => by simp only [decide_eq_true_eq] at *; omega) (fun a b => by
    by_cases h : a ≤ b
    · simp [h]
    · simp [h]; omega) l
/-- ints in order, told once each: sorted they are as they stand -/
theorem perm_sorted : ∀ {l m : List Int}, l.Perm m → l.Pairwise (· ≤ ·) → m.Pairwise (· ≤ ·) → l = m
  | [], m, h, _, _ => by
    have := h.length_eq
    cases m with
    | nil => rfl
    | cons y ys => simp at this
  | x :: xs, m, h, hl, hm => by
    cases m with
    | nil => have := h.length_eq; simp at this
    | cons y ys =>
      rw [List.pairwise_cons] at hl hm
      have hx : x ∈ y :: ys := h.subset List.mem_cons_self
      have hy : y ∈ x :: xs := h.symm.subset List.mem_cons_self
      have e : x = y := by
        rcases List.mem_cons.mp hx with z | z
        · exact z
        · rcases List.mem_cons.mp hy with w | w
          · exact w.symm
          · exact Int.le_antisymm (hl.1 y w) (hm.1 x z)
      subst e
      rw [perm_sorted (List.Perm.cons_inv h) hl.2 hm.2]
theorem sort_eq {l m : List Int} (h : l.Perm m) (hm : m.Pairwise (· ≤ ·)) : (l.mergeSort fun a b => decide (a ≤ b)) = m :=
  perm_sorted ((sort_perm l).trans h) ((sort_sorted l).imp fun z => of_decide_eq_true z) hm
theorem sortS_ints (l : List Int) (h : l.length ≤ 1000000) : sortS [.ls ((l.map D.int).map OV.fz)] = .ok (.ls (((l.mergeSort fun a b => decide (a ≤ b)).map D.int).map OV.fz)) := by
  unfold sortS
  dsimp only
  rw [listOf_ls]
  dsimp only
  have h2 : (2000000 : Nat) ≤ sizeLine := by decide
  have e1 : decide ((l.map D.int).length ≤ sizeLine) = true := decide_eq_true (by rw [List.length_map]; omega)
  have e2 : allAlike (l.map D.int) = true := by
    unfold allAlike
    simp [D.py, PySem.W.alike]
  have e3 : (l.map D.int).all isOther = true := by simp [isOther]
  have e4 : ((l.map D.int).all fun d => decide (d.dep ≤ 60)) = true := by simp [dep_int]
  rw [e1, e2, e3, e4, Bool.or_true, sortD_ints]
  rfl
end Pf

namespace K15
open PySem PySem.Spec PyProof.Rows L2 Pf
def top (i : Nat) : Stmt := PySem.Challenge.pw_wellstrewn_k15_branches_ways_rims.main.body.getD i (.Pass ⟨0, 0, 0, 0⟩)
section
variable {P : Program} {w : World} {K : PySem.W.Frag} {mg : Str → Option Value} {base : Heap}
abbrev cd0 (P : Program) (w : World) (K : PySem.W.Frag) (mg : Str → Option Value) (base : Heap) : Cd := ⟨P, w, K, mg, base, [], defScope (top 0), fun _ => true⟩
/-! _law_bag -/
abbrev s__law_bag : Stmt := top 7
abbrev N__law_bag : List Str := ["script", "cell"]
def g__law_bag : FS := (seqS (retS [] (lstF (consA [] false (eLit (.int 0)) (consA [] false (eLit (.int 1234567891)) (consA [] false (eLit (.int 0)) (consA [] false (compF [] [1] false (itF [] (sliF (eSlot 0) noneO (someO (eLit (.int 63))))) (nameG [] 1) yesT (biF (consA [] true (eSlot 1) nilA) absS)) nilA))))))
  nxS)
def f__law_bag : FV := runF 2 1 none g__law_bag
theorem b__law_bag {X : Cx} (m_abs : mg "abs" = none) (B : Bd X ⟨P, w, K, mg, base, N__law_bag, defScope s__law_bag, fun _ => true⟩ 0) : XB X [] (defBody s__law_bag) g__law_bag :=
  (xb_cons (xs_ret (xp_lst (xa_cons rfl xp_int (xa_cons rfl xp_int (xa_cons rfl xp_int (xa_cons rfl (B.comp [("cell", 1)] (by kernel_rfl) (by kernel_rfl) (fun _ => rfl) (xi_it (xp_slice (B.slot (by kernel_rfl)) xo_none (xo_some xp_int))) (fun X1 B1 => ⟨(B1.gname (by kernel_rfl)), xts_nil, (B1.abs (by kernel_rfl) m_abs rfl (xa_cons rfl (B1.slot (by kernel_rfl)) xa_nil))⟩)) xa_nil))))))
  xb_nil)
theorem sc__law_bag : FnScope N__law_bag ["script"] (defScope s__law_bag) := ⟨rfl, rfl, rfl, by decide +kernel, rfl, by decide +kernel, by decide +kernel⟩
theorem k__law_bag {f : Addr} {fd : FuncData} (m_abs : mg "abs" = none) (F : FunD K "_law_bag" "_law_bag" (defArgs s__law_bag) (defBody s__law_bag) (defScope s__law_bag) [] [] f fd) : FnG P w K mg base 1 f fd ["script"] (spP K 1 none f__law_bag) :=
  fn_ok (l := none) F sc__law_bag fun X B => b__law_bag m_abs B
theorem cal__law_bag {f : Addr} {fd : FuncData} (m_abs : mg "abs" = none) (F : FunD K "_law_bag" "_law_bag" (defArgs s__law_bag) (defBody s__law_bag) (defScope s__law_bag) [] [] f fd) (hm : mg "_law_bag" = some (.ref f)) : Cal (cd0 P w K mg base) 1 "_law_bag" 1 none f__law_bag :=
  ⟨f, fd, ["script"], k__law_bag m_abs F, hm, F.kp, F.bindsN fun _ _ _ _ _ _ us hl => match us, hl with | [_], _ => rfl⟩
/-! _law_take -/
abbrev s__law_take : Stmt := top 8
abbrev N__law_take : List Str := ["bag", "many", "cell", "stirred", "value", "begin", "second"]
def g__law_take : FS := (seqS (ifS (two (two (eSlot 0) (eLit (.int 0)) idxS) (eLit (.int 0)) eqS) (seqS (setS [0] 2 false (two (two (sliF (two (eSlot 0) (eLit (.int 3)) idxS) (someO (two (eSlot 0) (eLit (.int 2)) idxS)) noneO) (lstF (consA [0] false (eLit (.int 0)) nilA)) addS) (eLit (.int 0)) idxS))
  (seqS (augS (eSlot 0) (eLit (.int 2)) (eLit (.int 1)) (fun i j => i + j))
  (seqS (ifS (two (eSlot 2) (two (eLit (.int 10)) (eLit (.int 18)) powS) geS) (seqS (stS [0] (eSlot 2) (eSlot 0) (eLit (.int 0)))
  nxS) nxS)
  (seqS (setS [0] 3 false (two (two (two (two (eSlot 0) (eLit (.int 1)) idxS) (eLit (.int 48271)) mulS) (two (biF (consA [0] true (eSlot 2) nilA) intS) (eLit (.int 2147483647)) modS) addS) (two (eLit (.int 7919)) (two (eSlot 0) (eLit (.int 2)) idxS) mulS) addS))
  (seqS (stS [0] (two (biF (consA [0] true (eSlot 3) nilA) intS) (eLit (.int 2147483647)) modS) (eSlot 0) (eLit (.int 1)))
  nxS))))) nxS)
  (seqS (ifS (two (two (eSlot 0) (eLit (.int 0)) idxS) (eLit (.int 0)) gtS) (seqS (setS [0] 4 false (two (biF (consA [0] true (two (eSlot 0) (eLit (.int 0)) idxS) nilA) intS) (eSlot 1) modS))
  (seqS (stS [0] (two (biF (consA [0] true (two (eSlot 0) (eLit (.int 0)) idxS) nilA) intS) (eSlot 1) divS) (eSlot 0) (eLit (.int 0)))
  (seqS (retS [0] (eSlot 4))
  nxS))) nxS)
  (seqS (setS [0] 5 false (two (biF (consA [0] true (two (two (two (eSlot 0) (eLit (.int 1)) idxS) (eLit (.int 1)) addS) (eLit (.int 39373)) mulS) nilA) intS) (eLit (.int 1000000007)) modS))
  (seqS (setS [0] 6 false (two (biF (consA [0] true (two (two (biF (consA [0] true (two (eSlot 5) (eSlot 5) mulS) nilA) intS) (eLit (.int 998244353)) modS) (eLit (.int 30011)) mulS) nilA) intS) (eLit (.int 998244353)) modS))
  (seqS (retS [0] (two (biF (consA [0] true (two (eSlot 6) (eLit (.int 7)) divS) nilA) intS) (eSlot 1) modS))
  nxS)))))
def f__law_take : FV := runF 7 2 (some 0) g__law_take
theorem b__law_take {X : Cx} (m_int : mg "int" = none) (B : Bd X ⟨P, w, K, mg, base, N__law_take, defScope s__law_take, fun _ => true⟩ 0) : XB X [0] (defBody s__law_take) g__law_take :=
  (xb_cons (xs_if (B.teq (xp_idx rfl (B.slot (by kernel_rfl)) xp_int) xp_int) (xb_cons (B.set (own := false) (by kernel_rfl) rfl (xp_idx rfl (xp_bin os_add (xp_slice (xp_idx rfl (B.slot (by kernel_rfl)) xp_int) (xo_some (xp_idx rfl (B.slot (by kernel_rfl)) xp_int)) xo_none) (xp_lst (xa_cons rfl xp_int xa_nil))) xp_int))
  (xb_cons (xs_augIx ip_add rfl (B.slot (by kernel_rfl)) xp_int xp_int)
  (xb_cons (xs_if (B.tge (B.slot (by kernel_rfl)) (xp_bin os_pow xp_int xp_int)) (xb_cons (B.st rfl rfl rfl (B.slot (by kernel_rfl)) (B.slot (by kernel_rfl)) xp_int)
  xb_nil) xb_nil)
  (xb_cons (B.set (own := false) (by kernel_rfl) rfl (xp_bin os_add (xp_bin os_add (xp_bin os_mul (xp_idx rfl (B.slot (by kernel_rfl)) xp_int) xp_int) (xp_bin os_mod (B.int (by kernel_rfl) m_int rfl (xa_cons rfl (B.slot (by kernel_rfl)) xa_nil)) xp_int)) (xp_bin os_mul xp_int (xp_idx rfl (B.slot (by kernel_rfl)) xp_int))))
  (xb_cons (B.st rfl rfl rfl (xp_bin os_mod (B.int (by kernel_rfl) m_int rfl (xa_cons rfl (B.slot (by kernel_rfl)) xa_nil)) xp_int) (B.slot (by kernel_rfl)) xp_int)
  xb_nil))))) xb_nil)
  (xb_cons (xs_if (B.tgt (xp_idx rfl (B.slot (by kernel_rfl)) xp_int) xp_int) (xb_cons (B.set (own := false) (by kernel_rfl) rfl (xp_bin os_mod (B.int (by kernel_rfl) m_int rfl (xa_cons rfl (xp_idx rfl (B.slot (by kernel_rfl)) xp_int) xa_nil)) (B.slot (by kernel_rfl))))
  (xb_cons (B.st rfl rfl rfl (xp_bin os_div (B.int (by kernel_rfl) m_int rfl (xa_cons rfl (xp_idx rfl (B.slot (by kernel_rfl)) xp_int) xa_nil)) (B.slot (by kernel_rfl))) (B.slot (by kernel_rfl)) xp_int)
  (xb_cons (xs_ret (B.slot (by kernel_rfl)))
  xb_nil))) xb_nil)
  (xb_cons (B.set (own := false) (by kernel_rfl) rfl (xp_bin os_mod (B.int (by kernel_rfl) m_int rfl (xa_cons rfl (xp_bin os_mul (xp_bin os_add (xp_idx rfl (B.slot (by kernel_rfl)) xp_int) xp_int) xp_int) xa_nil)) xp_int))
  (xb_cons (B.set (own := false) (by kernel_rfl) rfl (xp_bin os_mod (B.int (by kernel_rfl) m_int rfl (xa_cons rfl (xp_bin os_mul (xp_bin os_mod (B.int (by kernel_rfl) m_int rfl (xa_cons rfl (xp_bin os_mul (B.slot (by kernel_rfl)) (B.slot (by kernel_rfl))) xa_nil)) xp_int) xp_int) xa_nil)) xp_int))
  (xb_cons (xs_ret (xp_bin os_mod (B.int (by kernel_rfl) m_int rfl (xa_cons rfl (xp_bin os_div (B.slot (by kernel_rfl)) xp_int) xa_nil)) (B.slot (by kernel_rfl))))
  xb_nil)))))
theorem sc__law_take : FnScope N__law_take ["bag", "many"] (defScope s__law_take) := ⟨rfl, rfl, rfl, by decide +kernel, rfl, by decide +kernel, by decide +kernel⟩
theorem k__law_take {f : Addr} {fd : FuncData} (m_int : mg "int" = none) (F : FunD K "_law_take" "_law_take" (defArgs s__law_take) (defBody s__law_take) (defScope s__law_take) [] [] f fd) : FnG P w K mg base 1 f fd ["bag", "many"] (spP K 2 (some 0) f__law_take) :=
  fn_ok (l := (some 0)) F sc__law_take fun X B => b__law_take m_int B
theorem cal__law_take {f : Addr} {fd : FuncData} (m_int : mg "int" = none) (F : FunD K "_law_take" "_law_take" (defArgs s__law_take) (defBody s__law_take) (defScope s__law_take) [] [] f fd) (hm : mg "_law_take" = some (.ref f)) : Cal (cd0 P w K mg base) 1 "_law_take" 2 (some 0) f__law_take :=
  ⟨f, fd, ["bag", "many"], k__law_take m_int F, hm, F.kp, F.bindsN fun _ _ _ _ _ _ us hl => match us, hl with | [_, _], _ => rfl⟩
/-! _law_some -/
abbrev s__law_some : Stmt := top 9
abbrev N__law_some : List Str := ["bag", "things"]
def g__law_some : FS := (seqS (retS [0] (two (eSlot 1) (callF 2 (some 0) f__law_take (consA [0] true (eSlot 0) (consA [0] false (biF (consA [0] true (eSlot 1) nilA) lenS) nilA))) idxS))
  nxS)
def f__law_some : FV := runF 2 2 (some 0) g__law_some
theorem b__law_some {X : Cx} (m_len : mg "len" = none) (c__law_take : Cal (cd0 P w K mg base) 1 "_law_take" 2 (some 0) f__law_take) (B : Bd X ⟨P, w, K, mg, base, N__law_some, defScope s__law_some, fun _ => true⟩ 1) : XB X [0] (defBody s__law_some) g__law_some :=
  (xb_cons (xs_ret (xp_idx rfl (B.slot (by kernel_rfl)) (B.call ⟨c__law_take.ex⟩ (by decide) (by kernel_rfl) rfl (xa_cons rfl (B.slot (by kernel_rfl)) (xa_cons rfl (B.len (by kernel_rfl) m_len rfl (xa_cons rfl (B.slot (by kernel_rfl)) xa_nil)) xa_nil)))))
  xb_nil)
theorem sc__law_some : FnScope N__law_some ["bag", "things"] (defScope s__law_some) := ⟨rfl, rfl, rfl, by decide +kernel, rfl, by decide +kernel, by decide +kernel⟩
theorem k__law_some {f : Addr} {fd : FuncData} (m_len : mg "len" = none) (c__law_take : Cal (cd0 P w K mg base) 1 "_law_take" 2 (some 0) f__law_take) (F : FunD K "_law_some" "_law_some" (defArgs s__law_some) (defBody s__law_some) (defScope s__law_some) [] [] f fd) : FnG P w K mg base 2 f fd ["bag", "things"] (spP K 2 (some 0) f__law_some) :=
  fn_ok (l := (some 0)) F sc__law_some fun X B => b__law_some m_len c__law_take B
theorem cal__law_some {f : Addr} {fd : FuncData} (m_len : mg "len" = none) (c__law_take : Cal (cd0 P w K mg base) 1 "_law_take" 2 (some 0) f__law_take) (F : FunD K "_law_some" "_law_some" (defArgs s__law_some) (defBody s__law_some) (defScope s__law_some) [] [] f fd) (hm : mg "_law_some" = some (.ref f)) : Cal (cd0 P w K mg base) 2 "_law_some" 2 (some 0) f__law_some :=
  ⟨f, fd, ["bag", "things"], k__law_some m_len c__law_take F, hm, F.kp, F.bindsN fun _ _ _ _ _ _ us hl => match us, hl with | [_, _], _ => rfl⟩
/-! _law_dungeon -/
abbrev s__law_dungeon : Stmt := top 12
abbrev N__law_dungeon : List Str := ["bag", "most", "rooms", "has_bars", "v", "way", "locks", "needed", "many", "keys", "room"]
def g__law_dungeon : FS := (seqS (parS [0] [2, 3] (consL [0] true (lstF (consA [0] false (tupF (consA [0] false (eLit .non) (consA [0] false (eLit .non) (consA [0] false (callF 2 (some 0) f__law_some (consA [0] true (eSlot 0) (consA [0] false (lstF (consA [0] false (eLit (.int 1)) (consA [0] false (eLit (.int 0)) (consA [0] false (eLit (.int 1)) (consA [0] false (eLit (.int 2)) nilA))))) nilA))) nilA)))) nilA)) (consL [0] false (two (callF 2 (some 0) f__law_take (consA [0] true (eSlot 0) (consA [0] false (eLit (.int 2)) nilA))) (eLit (.int 0)) eqS) nilL)))
  (seqS (forS (rngF range2S (consA [0] true (eLit (.int 1)) (consA [0] true (two (eLit (.int 1)) (callF 2 (some 0) f__law_take (consA [0] true (eSlot 0) (consA [0] false (eSlot 1) nilA))) addS) nilA))) (nameG [0] 4)
  (seqS (setS [0] 5 false (callF 2 (some 0) f__law_some (consA [0] true (eSlot 0) (consA [0] false (lstF (consA [0] false (eLit (.str "open")) (consA [0] false (eLit (.str "lock")) (consA [0] false (eLit (.str "lock")) (consA [0] false (iteF (eSlot 3) (eLit (.str "bar")) (eLit (.str "lock"))) nilA))))) nilA))))
  (seqS (exS (mthF 2 (consA [0] false (tupF (consA [0] false (callF 2 (some 0) f__law_some (consA [0] true (eSlot 0) (consA [0] false (lstF (consA [0] false (two (eSlot 4) (eLit (.int 1)) subS) (consA [0] false (callF 2 (some 0) f__law_take (consA [0] true (eSlot 0) (consA [0] false (eSlot 4) nilA))) nilA))) nilA))) (consA [0] false (eSlot 5) (consA [0] false (callF 2 (some 0) f__law_some (consA [0] true (eSlot 0) (consA [0] false (lstF (consA [0] false (eLit (.int 1)) (consA [0] false (eLit (.int 0)) (consA [0] false (eLit (.int 1)) (consA [0] false (eLit (.int 1)) (consA [0] false (eLit (.int 2)) nilA)))))) nilA))) nilA)))) nilA) appendM))
  nxS)))
  (seqS (setS [0] 6 false (biF (consA [0] true (compF [0] [10] false (itF [0] (eSlot 2)) (nameG [0] 10) (tru (two (two (eSlot 10) (eLit (.int 1)) idxS) (eLit (.str "lock")) eqS)) (eLit (.int 1))) nilA) lenS))
  (seqS (setS [0] 7 false (biF (consA [0] true (two (compF [0] [10] false (itF [0] (eSlot 2)) (nameG [0] 10) (tru (two (two (eSlot 10) (eLit (.int 1)) idxS) (eLit (.str "bar")) eqS)) (eLit (.int 1))) (lstF nilA) neS) nilA) intS))
  (seqS (setS [0] 8 false (biF (consA [0] true (compF [0] [10] false (itF [0] (eSlot 2)) (nameG [0] 10) yesT (two (eSlot 10) (eLit (.int 2)) idxS)) nilA) sumS))
  (seqS (ifS (two (eSlot 8) (eSlot 7) ltS) (seqS (parS [0] [2, 8] (consL [0] true (two (lstF (consA [0] false (tupF (consA [0] false (eLit .non) (consA [0] false (eLit .non) (consA [0] false (eLit (.int 1)) nilA)))) nilA)) (sliF (eSlot 2) (someO (eLit (.int 1))) noneO) addS) (consL [0] false (eLit (.int 1)) nilL)))
  nxS) nxS)
  (seqS (setS [0] 9 false (callF 2 (some 0) f__law_some (consA [0] true (eSlot 0) (consA [0] false (lstF (consA [0] false (eSlot 6) (consA [0] false (eSlot 6) (consA [0] false (eSlot 6) (consA [0] false (two (eSlot 6) (eLit (.int 1)) addS) (consA [0] false (biF (consA [0] true (eLit (.int 0)) (consA [0] true (two (eSlot 6) (eLit (.int 1)) subS) nilA)) maxS) nilA)))))) nilA))))
  (seqS (retS [0] (tupF (consA [0] false (biF (consA [0] true (eSlot 2) nilA) tupS) (consA [0] false (biF (consA [0] true (eLit (.int 0)) (consA [0] true (biF (consA [0] true (eSlot 9) (consA [0] true (two (eSlot 8) (eSlot 7) subS) (consA [0] true (eLit (.int 6)) nilA))) minS) nilA)) maxS) nilA))))
  nxS))))))))
def f__law_dungeon : FV := runF 11 2 (some 0) g__law_dungeon
theorem b__law_dungeon {X : Cx} (m_int : mg "int" = none) (m_len : mg "len" = none) (m_max : mg "max" = none) (m_min : mg "min" = none) (m_range : mg "range" = none) (m_sum : mg "sum" = none) (m_tuple : mg "tuple" = none) (c__law_some : Cal (cd0 P w K mg base) 2 "_law_some" 2 (some 0) f__law_some) (c__law_take : Cal (cd0 P w K mg base) 1 "_law_take" 2 (some 0) f__law_take) (B : Bd X ⟨P, w, K, mg, base, N__law_dungeon, defScope s__law_dungeon, fun _ => true⟩ 2) : XB X [0] (defBody s__law_dungeon) g__law_dungeon :=
  (xb_cons (B.par2 (by kernel_rfl) (by kernel_rfl) (by kernel_rfl) (by kernel_rfl) (by kernel_rfl) (by kernel_rfl) (by kernel_rfl) (by kernel_rfl) (xl_cons rfl (xp_lst (xa_cons rfl (xp_tup (xa_cons rfl xp_non (xa_cons rfl xp_non (xa_cons rfl (B.call ⟨c__law_some.ex⟩ (by decide) (by kernel_rfl) rfl (xa_cons rfl (B.slot (by kernel_rfl)) (xa_cons rfl (xp_lst (xa_cons rfl xp_int (xa_cons rfl xp_int (xa_cons rfl xp_int (xa_cons rfl xp_int xa_nil))))) xa_nil))) xa_nil)))) xa_nil)) (xl_cons rfl (B.eq (B.call ⟨c__law_take.ex⟩ (by decide) (by kernel_rfl) rfl (xa_cons rfl (B.slot (by kernel_rfl)) (xa_cons rfl xp_int xa_nil))) xp_int) xl_nil)))
  (xb_cons (B.for_ (fun _ => rfl) (B.range2 (by kernel_rfl) m_range rfl (xa_cons rfl xp_int (xa_cons rfl (xp_bin os_add xp_int (B.call ⟨c__law_take.ex⟩ (by decide) (by kernel_rfl) rfl (xa_cons rfl (B.slot (by kernel_rfl)) (xa_cons rfl (B.slot (by kernel_rfl)) xa_nil)))) xa_nil))) (B.gname (by kernel_rfl)) (xb_cons (B.set (own := false) (by kernel_rfl) rfl (B.call ⟨c__law_some.ex⟩ (by decide) (by kernel_rfl) rfl (xa_cons rfl (B.slot (by kernel_rfl)) (xa_cons rfl (xp_lst (xa_cons rfl xp_str (xa_cons rfl xp_str (xa_cons rfl xp_str (xa_cons rfl (xp_ite (xt_of (B.slot (by kernel_rfl)) (fun _ => rfl)) xp_str xp_str) xa_nil))))) xa_nil))))
  (xb_cons (xs_expr rfl (B.append (by kernel_rfl) rfl rfl rfl rfl (xa_cons rfl (xp_tup (xa_cons rfl (B.call ⟨c__law_some.ex⟩ (by decide) (by kernel_rfl) rfl (xa_cons rfl (B.slot (by kernel_rfl)) (xa_cons rfl (xp_lst (xa_cons rfl (xp_bin os_sub (B.slot (by kernel_rfl)) xp_int) (xa_cons rfl (B.call ⟨c__law_take.ex⟩ (by decide) (by kernel_rfl) rfl (xa_cons rfl (B.slot (by kernel_rfl)) (xa_cons rfl (B.slot (by kernel_rfl)) xa_nil))) xa_nil))) xa_nil))) (xa_cons rfl (B.slot (by kernel_rfl)) (xa_cons rfl (B.call ⟨c__law_some.ex⟩ (by decide) (by kernel_rfl) rfl (xa_cons rfl (B.slot (by kernel_rfl)) (xa_cons rfl (xp_lst (xa_cons rfl xp_int (xa_cons rfl xp_int (xa_cons rfl xp_int (xa_cons rfl xp_int (xa_cons rfl xp_int xa_nil)))))) xa_nil))) xa_nil)))) xa_nil)))
  xb_nil)))
  (xb_cons (B.set (own := false) (by kernel_rfl) rfl (B.len (by kernel_rfl) m_len rfl (xa_cons rfl (B.comp [("room", 10)] (by kernel_rfl) (by kernel_rfl) (fun _ => rfl) (xi_it (B.slot (by kernel_rfl))) (fun X1 B1 => ⟨(B1.gname (by kernel_rfl)), (xts_one (B1.teq (xp_idx rfl (B1.slot (by kernel_rfl)) xp_int) xp_str)), xp_int⟩)) xa_nil)))
  (xb_cons (B.set (own := false) (by kernel_rfl) rfl (B.int (by kernel_rfl) m_int rfl (xa_cons rfl (B.ne (B.comp [("room", 10)] (by kernel_rfl) (by kernel_rfl) (fun _ => rfl) (xi_it (B.slot (by kernel_rfl))) (fun X2 B2 => ⟨(B2.gname (by kernel_rfl)), (xts_one (B2.teq (xp_idx rfl (B2.slot (by kernel_rfl)) xp_int) xp_str)), xp_int⟩)) (xp_lst xa_nil)) xa_nil)))
  (xb_cons (B.set (own := false) (by kernel_rfl) rfl (B.sum (by kernel_rfl) m_sum rfl (xa_cons rfl (B.comp [("room", 10)] (by kernel_rfl) (by kernel_rfl) (fun _ => rfl) (xi_it (B.slot (by kernel_rfl))) (fun X3 B3 => ⟨(B3.gname (by kernel_rfl)), xts_nil, (xp_idx rfl (B3.slot (by kernel_rfl)) xp_int)⟩)) xa_nil)))
  (xb_cons (xs_if (B.tlt (B.slot (by kernel_rfl)) (B.slot (by kernel_rfl))) (xb_cons (B.par2 (by kernel_rfl) (by kernel_rfl) (by kernel_rfl) (by kernel_rfl) (by kernel_rfl) (by kernel_rfl) (by kernel_rfl) (by kernel_rfl) (xl_cons rfl (xp_bin os_add (xp_lst (xa_cons rfl (xp_tup (xa_cons rfl xp_non (xa_cons rfl xp_non (xa_cons rfl xp_int xa_nil)))) xa_nil)) (xp_slice (B.slot (by kernel_rfl)) (xo_some xp_int) xo_none)) (xl_cons rfl xp_int xl_nil)))
  xb_nil) xb_nil)
  (xb_cons (B.set (own := false) (by kernel_rfl) rfl (B.call ⟨c__law_some.ex⟩ (by decide) (by kernel_rfl) rfl (xa_cons rfl (B.slot (by kernel_rfl)) (xa_cons rfl (xp_lst (xa_cons rfl (B.slot (by kernel_rfl)) (xa_cons rfl (B.slot (by kernel_rfl)) (xa_cons rfl (B.slot (by kernel_rfl)) (xa_cons rfl (xp_bin os_add (B.slot (by kernel_rfl)) xp_int) (xa_cons rfl (B.max (by kernel_rfl) m_max rfl (xa_cons rfl xp_int (xa_cons rfl (xp_bin os_sub (B.slot (by kernel_rfl)) xp_int) xa_nil))) xa_nil)))))) xa_nil))))
  (xb_cons (xs_ret (xp_tup (xa_cons rfl (B.tuple (by kernel_rfl) m_tuple rfl (xa_cons rfl (B.slot (by kernel_rfl)) xa_nil)) (xa_cons rfl (B.max (by kernel_rfl) m_max rfl (xa_cons rfl xp_int (xa_cons rfl (B.min (by kernel_rfl) m_min rfl (xa_cons rfl (B.slot (by kernel_rfl)) (xa_cons rfl (xp_bin os_sub (B.slot (by kernel_rfl)) (B.slot (by kernel_rfl))) (xa_cons rfl xp_int xa_nil)))) xa_nil))) xa_nil))))
  xb_nil))))))))
theorem sc__law_dungeon : FnScope N__law_dungeon ["bag", "most"] (defScope s__law_dungeon) := ⟨rfl, rfl, rfl, by decide +kernel, rfl, by decide +kernel, by decide +kernel⟩
theorem k__law_dungeon {f : Addr} {fd : FuncData} (m_int : mg "int" = none) (m_len : mg "len" = none) (m_max : mg "max" = none) (m_min : mg "min" = none) (m_range : mg "range" = none) (m_sum : mg "sum" = none) (m_tuple : mg "tuple" = none) (c__law_some : Cal (cd0 P w K mg base) 2 "_law_some" 2 (some 0) f__law_some) (c__law_take : Cal (cd0 P w K mg base) 1 "_law_take" 2 (some 0) f__law_take) (F : FunD K "_law_dungeon" "_law_dungeon" (defArgs s__law_dungeon) (defBody s__law_dungeon) (defScope s__law_dungeon) [] [] f fd) : FnG P w K mg base 3 f fd ["bag", "most"] (spP K 2 (some 0) f__law_dungeon) :=
  fn_ok (l := (some 0)) F sc__law_dungeon fun X B => b__law_dungeon m_int m_len m_max m_min m_range m_sum m_tuple c__law_some c__law_take B
theorem cal__law_dungeon {f : Addr} {fd : FuncData} (m_int : mg "int" = none) (m_len : mg "len" = none) (m_max : mg "max" = none) (m_min : mg "min" = none) (m_range : mg "range" = none) (m_sum : mg "sum" = none) (m_tuple : mg "tuple" = none) (c__law_some : Cal (cd0 P w K mg base) 2 "_law_some" 2 (some 0) f__law_some) (c__law_take : Cal (cd0 P w K mg base) 1 "_law_take" 2 (some 0) f__law_take) (F : FunD K "_law_dungeon" "_law_dungeon" (defArgs s__law_dungeon) (defBody s__law_dungeon) (defScope s__law_dungeon) [] [] f fd) (hm : mg "_law_dungeon" = some (.ref f)) : Cal (cd0 P w K mg base) 3 "_law_dungeon" 2 (some 0) f__law_dungeon :=
  ⟨f, fd, ["bag", "most"], k__law_dungeon m_int m_len m_max m_min m_range m_sum m_tuple c__law_some c__law_take F, hm, F.kp, F.bindsN fun _ _ _ _ _ _ us hl => match us, hl with | [_, _], _ => rfl⟩
/-! _law_any_lot -/
abbrev s__law_any_lot : Stmt := top 15
abbrev N__law_any_lot : List Str := ["bag", "many", "way", "v"]
def g__law_any_lot : FS := (seqS (setS [0] 2 false (callF 2 (some 0) f__law_take (consA [0] true (eSlot 0) (consA [0] false (eLit (.int 3)) nilA))))
  (seqS (retS [0] (biF (consA [0] true (compF [0] [3] false (rngF range1S (consA [0] true (eSlot 1) nilA)) (nameG [0] 3) (tru (two (callF 2 (some 0) f__law_take (consA [0] true (eSlot 0) (consA [0] false (two (eLit (.int 2)) (eSlot 2) addS) nilA))) (eLit (.int 0)) eqS)) (eSlot 3)) nilA) tupS))
  nxS))
def f__law_any_lot : FV := runF 4 2 (some 0) g__law_any_lot
theorem b__law_any_lot {X : Cx} (m_range : mg "range" = none) (m_tuple : mg "tuple" = none) (c__law_take : Cal (cd0 P w K mg base) 1 "_law_take" 2 (some 0) f__law_take) (B : Bd X ⟨P, w, K, mg, base, N__law_any_lot, defScope s__law_any_lot, fun _ => true⟩ 1) : XB X [0] (defBody s__law_any_lot) g__law_any_lot :=
  (xb_cons (B.set (own := false) (by kernel_rfl) rfl (B.call ⟨c__law_take.ex⟩ (by decide) (by kernel_rfl) rfl (xa_cons rfl (B.slot (by kernel_rfl)) (xa_cons rfl xp_int xa_nil))))
  (xb_cons (xs_ret (B.tuple (by kernel_rfl) m_tuple rfl (xa_cons rfl (B.comp [("v", 3)] (by kernel_rfl) (by kernel_rfl) (fun _ => rfl) (B.range1 (by kernel_rfl) m_range rfl (xa_cons rfl (B.slot (by kernel_rfl)) xa_nil)) (fun X1 B1 => ⟨(B1.gname (by kernel_rfl)), (xts_one (B1.teq (B1.call ⟨c__law_take.ex⟩ (by decide) (by kernel_rfl) rfl (xa_cons rfl (B1.slot (by kernel_rfl)) (xa_cons rfl (xp_bin os_add xp_int (B1.slot (by kernel_rfl))) xa_nil))) xp_int)), (B1.slot (by kernel_rfl))⟩)) xa_nil)))
  xb_nil))
theorem sc__law_any_lot : FnScope N__law_any_lot ["bag", "many"] (defScope s__law_any_lot) := ⟨rfl, rfl, rfl, by decide +kernel, rfl, by decide +kernel, by decide +kernel⟩
theorem k__law_any_lot {f : Addr} {fd : FuncData} (m_range : mg "range" = none) (m_tuple : mg "tuple" = none) (c__law_take : Cal (cd0 P w K mg base) 1 "_law_take" 2 (some 0) f__law_take) (F : FunD K "_law_any_lot" "_law_any_lot" (defArgs s__law_any_lot) (defBody s__law_any_lot) (defScope s__law_any_lot) [] [] f fd) : FnG P w K mg base 2 f fd ["bag", "many"] (spP K 2 (some 0) f__law_any_lot) :=
  fn_ok (l := (some 0)) F sc__law_any_lot fun X B => b__law_any_lot m_range m_tuple c__law_take B
theorem cal__law_any_lot {f : Addr} {fd : FuncData} (m_range : mg "range" = none) (m_tuple : mg "tuple" = none) (c__law_take : Cal (cd0 P w K mg base) 1 "_law_take" 2 (some 0) f__law_take) (F : FunD K "_law_any_lot" "_law_any_lot" (defArgs s__law_any_lot) (defBody s__law_any_lot) (defScope s__law_any_lot) [] [] f fd) (hm : mg "_law_any_lot" = some (.ref f)) : Cal (cd0 P w K mg base) 2 "_law_any_lot" 2 (some 0) f__law_any_lot :=
  ⟨f, fd, ["bag", "many"], k__law_any_lot m_range m_tuple c__law_take F, hm, F.kp, F.bindsN fun _ _ _ _ _ _ us hl => match us, hl with | [_, _], _ => rfl⟩
/-! _law_mixed -/
abbrev s__law_mixed : Stmt := top 10
abbrev N__law_mixed : List Str := ["bag", "things", "found", "thing"]
def g__law_mixed : FS := (seqS (setS [0] 2 true (lstF nilA))
  (seqS (forS (itF [0] (eSlot 1)) (nameG [0] 3)
  (seqS (exS (mthF 2 (consA [0] false (callF 2 (some 0) f__law_take (consA [0] true (eSlot 0) (consA [0] false (two (biF (consA [0] true (eSlot 2) nilA) lenS) (eLit (.int 1)) addS) nilA))) (consA [0] false (eSlot 3) nilA)) insertM))
  nxS))
  (seqS (retS [0] (eSlot 2))
  nxS)))
def f__law_mixed : FV := runF 4 2 (some 0) g__law_mixed
theorem b__law_mixed {X : Cx} (m_len : mg "len" = none) (c__law_take : Cal (cd0 P w K mg base) 1 "_law_take" 2 (some 0) f__law_take) (B : Bd X ⟨P, w, K, mg, base, N__law_mixed, defScope s__law_mixed, fun _ => true⟩ 1) : XB X [0] (defBody s__law_mixed) g__law_mixed :=
  (xb_cons (B.set (own := true) (by kernel_rfl) rfl (xp_lst xa_nil))
  (xb_cons (B.for_ (fun _ => rfl) (xi_it (B.slot (by kernel_rfl))) (B.gname (by kernel_rfl)) (xb_cons (xs_expr rfl (B.insert (by kernel_rfl) rfl rfl rfl rfl (xa_cons rfl (B.call ⟨c__law_take.ex⟩ (by decide) (by kernel_rfl) rfl (xa_cons rfl (B.slot (by kernel_rfl)) (xa_cons rfl (xp_bin os_add (B.len (by kernel_rfl) m_len rfl (xa_cons rfl (B.slot (by kernel_rfl)) xa_nil)) xp_int) xa_nil))) (xa_cons rfl (B.slot (by kernel_rfl)) xa_nil))))
  xb_nil))
  (xb_cons (xs_ret (B.slot (by kernel_rfl)))
  xb_nil)))
theorem sc__law_mixed : FnScope N__law_mixed ["bag", "things"] (defScope s__law_mixed) := ⟨rfl, rfl, rfl, by decide +kernel, rfl, by decide +kernel, by decide +kernel⟩
theorem k__law_mixed {f : Addr} {fd : FuncData} (m_len : mg "len" = none) (c__law_take : Cal (cd0 P w K mg base) 1 "_law_take" 2 (some 0) f__law_take) (F : FunD K "_law_mixed" "_law_mixed" (defArgs s__law_mixed) (defBody s__law_mixed) (defScope s__law_mixed) [] [] f fd) : FnG P w K mg base 2 f fd ["bag", "things"] (spP K 2 (some 0) f__law_mixed) :=
  fn_ok (l := (some 0)) F sc__law_mixed fun X B => b__law_mixed m_len c__law_take B
theorem cal__law_mixed {f : Addr} {fd : FuncData} (m_len : mg "len" = none) (c__law_take : Cal (cd0 P w K mg base) 1 "_law_take" 2 (some 0) f__law_take) (F : FunD K "_law_mixed" "_law_mixed" (defArgs s__law_mixed) (defBody s__law_mixed) (defScope s__law_mixed) [] [] f fd) (hm : mg "_law_mixed" = some (.ref f)) : Cal (cd0 P w K mg base) 2 "_law_mixed" 2 (some 0) f__law_mixed :=
  ⟨f, fd, ["bag", "things"], k__law_mixed m_len c__law_take F, hm, F.kp, F.bindsN fun _ _ _ _ _ _ us hl => match us, hl with | [_, _], _ => rfl⟩
/-! _law_up -/
abbrev s__law_up : Stmt := top 13
abbrev N__law_up : List Str := ["dungeon", "v", "found", "step"]
def g__law_up : FS := (seqS (setS [] 2 true (lstF nilA))
  (seqS (forS (rngF range1S (consA [] true (biF (consA [] true (two (eSlot 0) (eLit (.int 0)) idxS) nilA) lenS) nilA)) (nameG [] 3)
  (seqS (ifS (two (eSlot 1) (eLit .non) isnotS) (seqS (exS (mthF 2 (consA [] false (eSlot 1) nilA) appendM))
  (seqS (setS [] 1 false (two (two (two (eSlot 0) (eLit (.int 0)) idxS) (eSlot 1) idxS) (eLit (.int 0)) idxS))
  nxS)) nxS)
  nxS))
  (seqS (retS [] (eSlot 2))
  nxS)))
def f__law_up : FV := runF 4 2 none g__law_up
theorem b__law_up {X : Cx} (m_len : mg "len" = none) (m_range : mg "range" = none) (B : Bd X ⟨P, w, K, mg, base, N__law_up, defScope s__law_up, fun _ => true⟩ 0) : XB X [] (defBody s__law_up) g__law_up :=
  (xb_cons (B.set (own := true) (by kernel_rfl) rfl (xp_lst xa_nil))
  (xb_cons (B.for_ (fun _ => rfl) (B.range1 (by kernel_rfl) m_range rfl (xa_cons rfl (B.len (by kernel_rfl) m_len rfl (xa_cons rfl (xp_idx rfl (B.slot (by kernel_rfl)) xp_int) xa_nil)) xa_nil)) (B.gname (by kernel_rfl)) (xb_cons (xs_if (B.tisnot (B.slot (by kernel_rfl)) xp_non) (xb_cons (xs_expr rfl (B.append (by kernel_rfl) rfl rfl rfl rfl (xa_cons rfl (B.slot (by kernel_rfl)) xa_nil)))
  (xb_cons (B.set (own := false) (by kernel_rfl) rfl (xp_idx rfl (xp_idx rfl (xp_idx rfl (B.slot (by kernel_rfl)) xp_int) (B.slot (by kernel_rfl))) xp_int))
  xb_nil)) xb_nil)
  xb_nil))
  (xb_cons (xs_ret (B.slot (by kernel_rfl)))
  xb_nil)))
theorem sc__law_up : FnScope N__law_up ["dungeon", "v"] (defScope s__law_up) := ⟨rfl, rfl, rfl, by decide +kernel, rfl, by decide +kernel, by decide +kernel⟩
theorem k__law_up {f : Addr} {fd : FuncData} (m_len : mg "len" = none) (m_range : mg "range" = none) (F : FunD K "_law_up" "_law_up" (defArgs s__law_up) (defBody s__law_up) (defScope s__law_up) [] [] f fd) : FnG P w K mg base 1 f fd ["dungeon", "v"] (spP K 2 none f__law_up) :=
  fn_ok (l := none) F sc__law_up fun X B => b__law_up m_len m_range B
theorem cal__law_up {f : Addr} {fd : FuncData} (m_len : mg "len" = none) (m_range : mg "range" = none) (F : FunD K "_law_up" "_law_up" (defArgs s__law_up) (defBody s__law_up) (defScope s__law_up) [] [] f fd) (hm : mg "_law_up" = some (.ref f)) : Cal (cd0 P w K mg base) 1 "_law_up" 2 none f__law_up :=
  ⟨f, fd, ["dungeon", "v"], k__law_up m_len m_range F, hm, F.kp, F.bindsN fun _ _ _ _ _ _ us hl => match us, hl with | [_, _], _ => rfl⟩
/-! _law_alike -/
abbrev s__law_alike : Stmt := top 11
abbrev N__law_alike : List Str := ["found", "due"]
def g__law_alike : FS := (seqS (retS [] (boF false (two (eSlot 0) (eSlot 1) eqS) (two (biF (consA [] true (eSlot 0) nilA) reprS) (biF (consA [] true (eSlot 1) nilA) reprS) eqS)))
  nxS)
def f__law_alike : FV := runF 2 2 none g__law_alike
theorem b__law_alike {X : Cx} (m_repr : mg "repr" = none) (B : Bd X ⟨P, w, K, mg, base, N__law_alike, defScope s__law_alike, fun _ => true⟩ 0) : XB X [] (defBody s__law_alike) g__law_alike :=
  (xb_cons (xs_ret (xp_and (B.eq (B.slot (by kernel_rfl)) (B.slot (by kernel_rfl))) (xp_bo1 (B.eq (B.repr (by kernel_rfl) m_repr rfl (xa_cons rfl (B.slot (by kernel_rfl)) xa_nil)) (B.repr (by kernel_rfl) m_repr rfl (xa_cons rfl (B.slot (by kernel_rfl)) xa_nil))))))
  xb_nil)
theorem sc__law_alike : FnScope N__law_alike ["found", "due"] (defScope s__law_alike) := ⟨rfl, rfl, rfl, by decide +kernel, rfl, by decide +kernel, by decide +kernel⟩
theorem k__law_alike {f : Addr} {fd : FuncData} (m_repr : mg "repr" = none) (F : FunD K "_law_alike" "_law_alike" (defArgs s__law_alike) (defBody s__law_alike) (defScope s__law_alike) [] [] f fd) : FnG P w K mg base 1 f fd ["found", "due"] (spP K 2 none f__law_alike) :=
  fn_ok (l := none) F sc__law_alike fun X B => b__law_alike m_repr B
theorem cal__law_alike {f : Addr} {fd : FuncData} (m_repr : mg "repr" = none) (F : FunD K "_law_alike" "_law_alike" (defArgs s__law_alike) (defBody s__law_alike) (defScope s__law_alike) [] [] f fd) (hm : mg "_law_alike" = some (.ref f)) : Cal (cd0 P w K mg base) 1 "_law_alike" 2 none f__law_alike :=
  ⟨f, fd, ["found", "due"], k__law_alike m_repr F, hm, F.kp, F.bindsN fun _ _ _ _ _ _ us hl => match us, hl with | [_, _], _ => rfl⟩
/-! rim_of -/
abbrev s_rim_of : Stmt := top 5
abbrev N_rim_of : List Str := ["dungeon", "rooms", "v", "room"]
def g_rim_of : FS := (seqS (retS [] (biF (consA [] true (compF [] [2, 3] false (rngF (datL (enumL 0)) (consA [] false (two (eSlot 0) (eLit (.int 0)) idxS) nilA)) (tupG 2 (consG (nameG [] 2) (consG (nameG [] 3) nilG))) (tru (boF false (two (eSlot 2) (eSlot 1) (memS true)) (two (two (eSlot 3) (eLit (.int 0)) idxS) (eSlot 1) (memS false)))) (eSlot 2)) nilA) tupS))
  nxS)
def f_rim_of : FV := runF 4 2 none g_rim_of
theorem b_rim_of {X : Cx} (m_enumerate : mg "enumerate" = none) (m_tuple : mg "tuple" = none) (B : Bd X ⟨P, w, K, mg, base, N_rim_of, defScope s_rim_of, fun _ => true⟩ 0) : XB X [] (defBody s_rim_of) g_rim_of :=
  (xb_cons (xs_ret (B.tuple (by kernel_rfl) m_tuple rfl (xa_cons rfl (B.comp [("v", 2), ("room", 3)] (by kernel_rfl) (by kernel_rfl) (fun _ => rfl) (B.enum (by kernel_rfl) m_enumerate rfl (xa_cons rfl (xp_idx rfl (B.slot (by kernel_rfl)) xp_int) xa_nil)) (fun X1 B1 => ⟨(B1.gtup rfl (xgs_cons rfl (B1.gname (by kernel_rfl)) (xgs_cons rfl (B1.gname (by kernel_rfl)) xgs_nil))), (xts_one (PW.pt (xw_and (B1.tnmem rfl (B1.slot (by kernel_rfl)) (B1.slot (by kernel_rfl))) (xw_and1 (B1.tmem rfl (xp_idx rfl (B1.slot (by kernel_rfl)) xp_int) (B1.slot (by kernel_rfl))))))), (B1.slot (by kernel_rfl))⟩)) xa_nil)))
  xb_nil)
theorem sc_rim_of : FnScope N_rim_of ["dungeon", "rooms"] (defScope s_rim_of) := ⟨rfl, rfl, rfl, by decide +kernel, rfl, by decide +kernel, by decide +kernel⟩
theorem k_rim_of {f : Addr} {fd : FuncData} (m_enumerate : mg "enumerate" = none) (m_tuple : mg "tuple" = none) (F : FunD K "rim_of" "rim_of" (defArgs s_rim_of) (defBody s_rim_of) (defScope s_rim_of) [] [] f fd) : FnG P w K mg base 1 f fd ["dungeon", "rooms"] (spP K 2 none f_rim_of) :=
  fn_ok (l := none) F sc_rim_of fun X B => b_rim_of m_enumerate m_tuple B
theorem cal_rim_of {f : Addr} {fd : FuncData} (m_enumerate : mg "enumerate" = none) (m_tuple : mg "tuple" = none) (F : FunD K "rim_of" "rim_of" (defArgs s_rim_of) (defBody s_rim_of) (defScope s_rim_of) [] [] f fd) (hm : mg "rim_of" = some (.ref f)) : Cal (cd0 P w K mg base) 1 "rim_of" 2 none f_rim_of :=
  ⟨f, fd, ["dungeon", "rooms"], k_rim_of m_enumerate m_tuple F, hm, F.kp, F.bindsN fun _ _ _ _ _ _ us hl => match us, hl with | [_, _], _ => rfl⟩
/-! way_to -/
abbrev s_way_to : Stmt := top 3
abbrev N_way_to : List Str := ["dungeon", "v", "found"]
def g_way_to : FS := (seqS (setS [] 2 true (lstF nilA))
  (seqS (whlS (two (eSlot 1) (eLit .non) isnotS) (seqS (exS (mthF 2 (consA [] false (eSlot 1) nilA) appendM))
  (seqS (setS [] 1 false (two (two (two (eSlot 0) (eLit (.int 0)) idxS) (eSlot 1) idxS) (eLit (.int 0)) idxS))
  nxS)))
  (seqS (retS [] (biF (consA [] true (biF (consA [] true (eSlot 2) nilA) sortS) nilA) tupS))
  nxS)))
def f_way_to : FV := runF 3 2 none g_way_to
theorem b_way_to {X : Cx} (m_sorted : mg "sorted" = none) (m_tuple : mg "tuple" = none) (B : Bd X ⟨P, w, K, mg, base, N_way_to, defScope s_way_to, fun _ => true⟩ 0) : XB X [] (defBody s_way_to) g_way_to :=
  (xb_cons (B.set (own := true) (by kernel_rfl) rfl (xp_lst xa_nil))
  (xb_cons (B.while_ (B.tisnot (B.slot (by kernel_rfl)) xp_non) (xb_cons (xs_expr rfl (B.append (by kernel_rfl) rfl rfl rfl rfl (xa_cons rfl (B.slot (by kernel_rfl)) xa_nil)))
  (xb_cons (B.set (own := false) (by kernel_rfl) rfl (xp_idx rfl (xp_idx rfl (xp_idx rfl (B.slot (by kernel_rfl)) xp_int) (B.slot (by kernel_rfl))) xp_int))
  xb_nil)))
  (xb_cons (xs_ret (B.tuple (by kernel_rfl) m_tuple rfl (xa_cons rfl (B.sorted (by kernel_rfl) m_sorted rfl (xa_cons rfl (B.slot (by kernel_rfl)) xa_nil)) xa_nil)))
  xb_nil)))
theorem sc_way_to : FnScope N_way_to ["dungeon", "v"] (defScope s_way_to) := ⟨rfl, rfl, rfl, by decide +kernel, rfl, by decide +kernel, by decide +kernel⟩
theorem k_way_to {f : Addr} {fd : FuncData} (m_sorted : mg "sorted" = none) (m_tuple : mg "tuple" = none) (F : FunD K "way_to" "way_to" (defArgs s_way_to) (defBody s_way_to) (defScope s_way_to) [] [] f fd) : FnG P w K mg base 1 f fd ["dungeon", "v"] (spP K 2 none f_way_to) :=
  fn_ok (l := none) F sc_way_to fun X B => b_way_to m_sorted m_tuple B
theorem cal_way_to {f : Addr} {fd : FuncData} (m_sorted : mg "sorted" = none) (m_tuple : mg "tuple" = none) (F : FunD K "way_to" "way_to" (defArgs s_way_to) (defBody s_way_to) (defScope s_way_to) [] [] f fd) (hm : mg "way_to" = some (.ref f)) : Cal (cd0 P w K mg base) 1 "way_to" 2 none f_way_to :=
  ⟨f, fd, ["dungeon", "v"], k_way_to m_sorted m_tuple F, hm, F.kp, F.bindsN fun _ _ _ _ _ _ us hl => match us, hl with | [_, _], _ => rfl⟩
/-! way_has_bar -/
abbrev s_way_has_bar : Stmt := top 4
abbrev N_way_has_bar : List Str := ["dungeon", "big", "v"]
def g_way_has_bar : FS := (seqS (retS [] (boF false (two (eSlot 1) (eLit .non) isnotS) (biF (consA [] true (compF [] [2] false (itF [] (callF 2 none f_way_to (consA [] false (eSlot 0) (consA [] false (eSlot 1) nilA)))) (nameG [] 2) yesT (two (two (two (two (eSlot 0) (eLit (.int 0)) idxS) (eSlot 2) idxS) (eLit (.int 1)) idxS) (eLit (.str "bar")) eqS)) nilA) (allS false))))
  nxS)
def f_way_has_bar : FV := runF 3 2 none g_way_has_bar
theorem b_way_has_bar {X : Cx} (m_any : mg "any" = none) (c_way_to : Cal (cd0 P w K mg base) 1 "way_to" 2 none f_way_to) (B : Bd X ⟨P, w, K, mg, base, N_way_has_bar, defScope s_way_has_bar, fun _ => true⟩ 1) : XB X [] (defBody s_way_has_bar) g_way_has_bar :=
  (xb_cons (xs_ret (xp_and (B.isnot (B.slot (by kernel_rfl)) xp_non) (xp_bo1 (B.any (by kernel_rfl) m_any rfl (xa_cons rfl (B.comp [("v", 2)] (by kernel_rfl) (by kernel_rfl) (fun _ => rfl) (xi_it (B.call ⟨c_way_to.ex⟩ (by decide) (by kernel_rfl) rfl (xa_cons rfl (B.slot (by kernel_rfl)) (xa_cons rfl (B.slot (by kernel_rfl)) xa_nil)))) (fun X1 B1 => ⟨(B1.gname (by kernel_rfl)), xts_nil, (B1.eq (xp_idx rfl (xp_idx rfl (xp_idx rfl (B1.slot (by kernel_rfl)) xp_int) (B1.slot (by kernel_rfl))) xp_int) xp_str)⟩)) xa_nil)))))
  xb_nil)
theorem sc_way_has_bar : FnScope N_way_has_bar ["dungeon", "big"] (defScope s_way_has_bar) := ⟨rfl, rfl, rfl, by decide +kernel, rfl, by decide +kernel, by decide +kernel⟩
theorem k_way_has_bar {f : Addr} {fd : FuncData} (m_any : mg "any" = none) (c_way_to : Cal (cd0 P w K mg base) 1 "way_to" 2 none f_way_to) (F : FunD K "way_has_bar" "way_has_bar" (defArgs s_way_has_bar) (defBody s_way_has_bar) (defScope s_way_has_bar) [] [] f fd) : FnG P w K mg base 2 f fd ["dungeon", "big"] (spP K 2 none f_way_has_bar) :=
  fn_ok (l := none) F sc_way_has_bar fun X B => b_way_has_bar m_any c_way_to B
theorem cal_way_has_bar {f : Addr} {fd : FuncData} (m_any : mg "any" = none) (c_way_to : Cal (cd0 P w K mg base) 1 "way_to" 2 none f_way_to) (F : FunD K "way_has_bar" "way_has_bar" (defArgs s_way_has_bar) (defBody s_way_has_bar) (defScope s_way_has_bar) [] [] f fd) (hm : mg "way_has_bar" = some (.ref f)) : Cal (cd0 P w K mg base) 2 "way_has_bar" 2 none f_way_has_bar :=
  ⟨f, fd, ["dungeon", "big"], k_way_has_bar m_any c_way_to F, hm, F.kp, F.bindsN fun _ _ _ _ _ _ us hl => match us, hl with | [_, _], _ => rfl⟩
/-! children_of -/
abbrev s_children_of : Stmt := top 1
abbrev N_children_of : List Str := ["dungeon", "found", "v", "parent", "_way", "_chests", "room"]
def g_children_of : FS := (seqS (setS [] 1 true (compF [] [6] true (itF [] (two (eSlot 0) (eLit (.int 0)) idxS)) (nameG [] 6) yesT (lstF nilA)))
  (seqS (forS (rngF (datL (enumL 0)) (consA [] false (two (eSlot 0) (eLit (.int 0)) idxS) nilA)) (tupG 2 (consG (nameG [] 2) (consG (tupG 3 (consG (nameG [] 3) (consG (nameG [] 4) (consG (nameG [] 5) nilG)))) nilG)))
  (seqS (ifS (two (eSlot 3) (eLit .non) isnotS) (seqS (exS (nappF 1 (qSlot 3) (qSlot 2)))
  nxS) nxS)
  nxS))
  (seqS (retS [] (eSlot 1))
  nxS)))
def f_children_of : FV := runF 7 1 none g_children_of
theorem b_children_of {X : Cx} (m_enumerate : mg "enumerate" = none) (B : Bd X ⟨P, w, K, mg, base, N_children_of, defScope s_children_of, fun _ => true⟩ 0) : XB X [] (defBody s_children_of) g_children_of :=
  (xb_cons (B.setLc (oo := true) [("room", 6)] (by kernel_rfl) (by kernel_rfl) (by kernel_rfl) (by kernel_rfl) (by kernel_rfl) (by kernel_rfl) (by kernel_rfl) (fun _ => rfl) (xi_it (xp_idx rfl (B.slot (by kernel_rfl)) xp_int)) (fun X1 B1 => ⟨(B1.gname (by kernel_rfl)), xts_nil, (xp_lst xa_nil)⟩))
  (xb_cons (B.for_ (fun _ => rfl) (B.enum (by kernel_rfl) m_enumerate rfl (xa_cons rfl (xp_idx rfl (B.slot (by kernel_rfl)) xp_int) xa_nil)) (B.gtup rfl (xgs_cons rfl (B.gname (by kernel_rfl)) (xgs_cons rfl (B.gtup rfl (xgs_cons rfl (B.gname (by kernel_rfl)) (xgs_cons rfl (B.gname (by kernel_rfl)) (xgs_cons rfl (B.gname (by kernel_rfl)) xgs_nil)))) xgs_nil))) (xb_cons (xs_if (B.tisnot (B.slot (by kernel_rfl)) xp_non) (xb_cons (xs_expr rfl (B.napp (by kernel_rfl) rfl rfl rfl rfl (B.qslot (by kernel_rfl)) (B.qslot (by kernel_rfl))))
  xb_nil) xb_nil)
  xb_nil))
  (xb_cons (xs_ret (B.slot (by kernel_rfl)))
  xb_nil)))
theorem sc_children_of : FnScope N_children_of ["dungeon"] (defScope s_children_of) := ⟨rfl, rfl, rfl, by decide +kernel, rfl, by decide +kernel, by decide +kernel⟩
theorem k_children_of {f : Addr} {fd : FuncData} (m_enumerate : mg "enumerate" = none) (F : FunD K "children_of" "children_of" (defArgs s_children_of) (defBody s_children_of) (defScope s_children_of) [] [] f fd) : FnG P w K mg base 1 f fd ["dungeon"] (spP K 1 none f_children_of) :=
  fn_ok (l := none) F sc_children_of fun X B => b_children_of m_enumerate B
theorem cal_children_of {f : Addr} {fd : FuncData} (m_enumerate : mg "enumerate" = none) (F : FunD K "children_of" "children_of" (defArgs s_children_of) (defBody s_children_of) (defScope s_children_of) [] [] f fd) (hm : mg "children_of" = some (.ref f)) : Cal (cd0 P w K mg base) 1 "children_of" 1 none f_children_of :=
  ⟨f, fd, ["dungeon"], k_children_of m_enumerate F, hm, F.kp, F.bindsN fun _ _ _ _ _ _ us hl => match us, hl with | [_], _ => rfl⟩
/-! branch_of -/
abbrev s_branch_of : Stmt := top 2
abbrev N_branch_of : List Str := ["dungeon", "v", "children", "found", "at"]
def g_branch_of : FS := (seqS (parS [] [2, 3, 4] (consL [] false (callF 1 none f_children_of (consA [] false (eSlot 0) nilA)) (consL [] true (lstF (consA [] false (eSlot 1) nilA)) (consL [] false (eLit (.int 0)) nilL))))
  (seqS (whlS (two (eSlot 4) (biF (consA [] true (eSlot 3) nilA) lenS) ltS) (seqS (exS (mthF 3 (consA [] false (two (eSlot 2) (two (eSlot 3) (eSlot 4) idxS) idxS) nilA) extendM))
  (seqS (augN [] 4 (eLit (.int 1)) (fun i j => i + j))
  nxS)))
  (seqS (retS [] (biF (consA [] true (biF (consA [] true (eSlot 3) nilA) sortS) nilA) tupS))
  nxS)))
def f_branch_of : FV := runF 5 2 none g_branch_of
theorem b_branch_of {X : Cx} (m_len : mg "len" = none) (m_sorted : mg "sorted" = none) (m_tuple : mg "tuple" = none) (c_children_of : Cal (cd0 P w K mg base) 1 "children_of" 1 none f_children_of) (B : Bd X ⟨P, w, K, mg, base, N_branch_of, defScope s_branch_of, fun _ => true⟩ 1) : XB X [] (defBody s_branch_of) g_branch_of :=
  (xb_cons (B.par3 (by kernel_rfl) (by kernel_rfl) (by kernel_rfl) (by kernel_rfl) (by kernel_rfl) (by kernel_rfl) (by kernel_rfl) (by kernel_rfl) (by kernel_rfl) (by kernel_rfl) (xl_cons rfl (B.call ⟨c_children_of.ex⟩ (by decide) (by kernel_rfl) rfl (xa_cons rfl (B.slot (by kernel_rfl)) xa_nil)) (xl_cons rfl (xp_lst (xa_cons rfl (B.slot (by kernel_rfl)) xa_nil)) (xl_cons rfl xp_int xl_nil))))
  (xb_cons (B.while_ (B.tlt (B.slot (by kernel_rfl)) (B.len (by kernel_rfl) m_len rfl (xa_cons rfl (B.slot (by kernel_rfl)) xa_nil))) (xb_cons (xs_expr rfl (B.extend (by kernel_rfl) rfl rfl rfl rfl (xa_cons rfl (xp_idx rfl (B.slot (by kernel_rfl)) (xp_idx rfl (B.slot (by kernel_rfl)) (B.slot (by kernel_rfl)))) xa_nil)))
  (xb_cons (B.augN ip_add (by kernel_rfl) xp_int)
  xb_nil)))
  (xb_cons (xs_ret (B.tuple (by kernel_rfl) m_tuple rfl (xa_cons rfl (B.sorted (by kernel_rfl) m_sorted rfl (xa_cons rfl (B.slot (by kernel_rfl)) xa_nil)) xa_nil)))
  xb_nil)))
theorem sc_branch_of : FnScope N_branch_of ["dungeon", "v"] (defScope s_branch_of) := ⟨rfl, rfl, rfl, by decide +kernel, rfl, by decide +kernel, by decide +kernel⟩
theorem k_branch_of {f : Addr} {fd : FuncData} (m_len : mg "len" = none) (m_sorted : mg "sorted" = none) (m_tuple : mg "tuple" = none) (c_children_of : Cal (cd0 P w K mg base) 1 "children_of" 1 none f_children_of) (F : FunD K "branch_of" "branch_of" (defArgs s_branch_of) (defBody s_branch_of) (defScope s_branch_of) [] [] f fd) : FnG P w K mg base 2 f fd ["dungeon", "v"] (spP K 2 none f_branch_of) :=
  fn_ok (l := none) F sc_branch_of fun X B => b_branch_of m_len m_sorted m_tuple c_children_of B
theorem cal_branch_of {f : Addr} {fd : FuncData} (m_len : mg "len" = none) (m_sorted : mg "sorted" = none) (m_tuple : mg "tuple" = none) (c_children_of : Cal (cd0 P w K mg base) 1 "children_of" 1 none f_children_of) (F : FunD K "branch_of" "branch_of" (defArgs s_branch_of) (defBody s_branch_of) (defScope s_branch_of) [] [] f fd) (hm : mg "branch_of" = some (.ref f)) : Cal (cd0 P w K mg base) 2 "branch_of" 2 none f_branch_of :=
  ⟨f, fd, ["dungeon", "v"], k_branch_of m_len m_sorted m_tuple c_children_of F, hm, F.kp, F.bindsN fun _ _ _ _ _ _ us hl => match us, hl with | [_, _], _ => rfl⟩
/-! _law_branch -/
abbrev s__law_branch : Stmt := top 14
abbrev N__law_branch : List Str := ["dungeon", "v", "u"]
def g__law_branch : FS := (seqS (retS [] (compF [] [2] false (rngF range1S (consA [] true (biF (consA [] true (two (eSlot 0) (eLit (.int 0)) idxS) nilA) lenS) nilA)) (nameG [] 2) (tru (two (eSlot 1) (callF 2 none f__law_up (consA [] false (eSlot 0) (consA [] false (eSlot 2) nilA))) (memS false))) (eSlot 2)))
  nxS)
def f__law_branch : FV := runF 3 2 none g__law_branch
theorem b__law_branch {X : Cx} (m_len : mg "len" = none) (m_range : mg "range" = none) (c__law_up : Cal (cd0 P w K mg base) 1 "_law_up" 2 none f__law_up) (B : Bd X ⟨P, w, K, mg, base, N__law_branch, defScope s__law_branch, fun _ => true⟩ 1) : XB X [] (defBody s__law_branch) g__law_branch :=
  (xb_cons (xs_ret (B.comp [("u", 2)] (by kernel_rfl) (by kernel_rfl) (fun _ => rfl) (B.range1 (by kernel_rfl) m_range rfl (xa_cons rfl (B.len (by kernel_rfl) m_len rfl (xa_cons rfl (xp_idx rfl (B.slot (by kernel_rfl)) xp_int) xa_nil)) xa_nil)) (fun X1 B1 => ⟨(B1.gname (by kernel_rfl)), (xts_one (B1.tmem rfl (B1.slot (by kernel_rfl)) (B1.call ⟨c__law_up.ex⟩ (by decide) (by kernel_rfl) rfl (xa_cons rfl (B1.slot (by kernel_rfl)) (xa_cons rfl (B1.slot (by kernel_rfl)) xa_nil))))), (B1.slot (by kernel_rfl))⟩)))
  xb_nil)
theorem sc__law_branch : FnScope N__law_branch ["dungeon", "v"] (defScope s__law_branch) := ⟨rfl, rfl, rfl, by decide +kernel, rfl, by decide +kernel, by decide +kernel⟩
theorem k__law_branch {f : Addr} {fd : FuncData} (m_len : mg "len" = none) (m_range : mg "range" = none) (c__law_up : Cal (cd0 P w K mg base) 1 "_law_up" 2 none f__law_up) (F : FunD K "_law_branch" "_law_branch" (defArgs s__law_branch) (defBody s__law_branch) (defScope s__law_branch) [] [] f fd) : FnG P w K mg base 2 f fd ["dungeon", "v"] (spP K 2 none f__law_branch) :=
  fn_ok (l := none) F sc__law_branch fun X B => b__law_branch m_len m_range c__law_up B
theorem cal__law_branch {f : Addr} {fd : FuncData} (m_len : mg "len" = none) (m_range : mg "range" = none) (c__law_up : Cal (cd0 P w K mg base) 1 "_law_up" 2 none f__law_up) (F : FunD K "_law_branch" "_law_branch" (defArgs s__law_branch) (defBody s__law_branch) (defScope s__law_branch) [] [] f fd) (hm : mg "_law_branch" = some (.ref f)) : Cal (cd0 P w K mg base) 2 "_law_branch" 2 none f__law_branch :=
  ⟨f, fd, ["dungeon", "v"], k__law_branch m_len m_range c__law_up F, hm, F.kp, F.bindsN fun _ _ _ _ _ _ us hl => match us, hl with | [_, _], _ => rfl⟩
/-! law -/
abbrev s_law : Stmt := top 16
abbrev N_law : List Str := ["script", "bag", "turn", "dungeon", "text", "rooms", "lot", "rim", "v", "up", "u"]
def g_law : FS := (seqS (setS [] 1 true (callF 1 none f__law_bag (consA [] false (eSlot 0) nilA)))
  (seqS (forS (rngF range1S (consA [] true (eLit (.int 4)) nilA)) (nameG [] 2)
  (seqS (setS [] 3 false (callF 2 (some 0) f__law_dungeon (consA [] true (eSlot 1) (consA [] false (callF 2 (some 0) f__law_some (consA [] true (eSlot 1) (consA [] false (lstF (consA [] false (eLit (.int 4)) (consA [] false (eLit (.int 10)) (consA [] false (eLit (.int 7)) nilA)))) nilA))) nilA))))
  (seqS (asgS [] (tupG 3 (consG (nameG [] 4) (consG (nameG [] 5) (consG (nameG [] 6) nilG)))) (tupF (consA [] false (biF (consA [] true (eSlot 3) nilA) reprS) (consA [] false (two (eSlot 3) (eLit (.int 0)) idxS) (consA [] false (callF 2 (some 0) f__law_any_lot (consA [] true (eSlot 1) (consA [] false (biF (consA [] true (two (eSlot 3) (eLit (.int 0)) idxS) nilA) lenS) nilA))) nilA)))))
  (seqS (setS [] 7 false (compF [] [8] false (rngF range1S (consA [] true (biF (consA [] true (eSlot 5) nilA) lenS) nilA)) (nameG [] 8) (tru (boF false (two (eSlot 8) (eSlot 6) (memS true)) (two (two (two (eSlot 5) (eSlot 8) idxS) (eLit (.int 0)) idxS) (eSlot 6) (memS false)))) (eSlot 8)))
  (seqS (ifS (boF true (notF (callF 2 none f__law_alike (consA [] false (callF 2 none f_rim_of (consA [] false (eSlot 3) (consA [] false (eSlot 6) nilA))) (consA [] false (biF (consA [] true (eSlot 7) nilA) tupS) nilA)))) (notF (callF 2 none f__law_alike (consA [] false (callF 2 none f_way_has_bar (consA [] false (eSlot 3) (consA [] false (eLit .non) nilA))) (consA [] false (eLit (.bl false)) nilA))))) (seqS (retS [] (eLit (.bl false)))
  nxS) nxS)
  (seqS (forS (itF [] (two (callF 2 (some 0) f__law_mixed (consA [] true (eSlot 1) (consA [] false (rgLF mkL (biF (consA [] true (eSlot 5) nilA) lenS)) nilA))) (lstF (consA [] false (eLit (.int 0)) nilA)) addS)) (nameG [] 8)
  (seqS (setS [] 9 false (callF 2 none f__law_up (consA [] false (eSlot 3) (consA [] false (eSlot 8) nilA))))
  (seqS (ifS (notF (callF 2 none f__law_alike (consA [] false (callF 2 none f_branch_of (consA [] false (eSlot 3) (consA [] false (eSlot 8) nilA))) (consA [] false (biF (consA [] true (callF 2 none f__law_branch (consA [] false (eSlot 3) (consA [] false (eSlot 8) nilA))) nilA) tupS) nilA)))) (seqS (retS [] (eLit (.bl false)))
  nxS) nxS)
  (seqS (ifS (notF (callF 2 none f__law_alike (consA [] false (callF 2 none f_way_to (consA [] false (eSlot 3) (consA [] false (eSlot 8) nilA))) (consA [] false (biF (consA [] true (biF (consA [] true (eSlot 9) nilA) sortS) nilA) tupS) nilA)))) (seqS (retS [] (eLit (.bl false)))
  nxS) nxS)
  (seqS (ifS (notF (callF 2 none f__law_alike (consA [] false (callF 2 none f_way_has_bar (consA [] false (eSlot 3) (consA [] false (eSlot 8) nilA))) (consA [] false (two (compF [] [10] false (itF [] (eSlot 9)) (nameG [] 10) (tru (two (two (two (eSlot 5) (eSlot 10) idxS) (eLit (.int 1)) idxS) (eLit (.str "bar")) eqS)) (eSlot 10)) (lstF nilA) neS) nilA)))) (seqS (retS [] (eLit (.bl false)))
  nxS) nxS)
  nxS)))))
  (seqS (ifS (boF true (notF (callF 2 none f__law_alike (consA [] false (callF 2 none f_rim_of (consA [] false (eSlot 3) (consA [] false (eSlot 6) nilA))) (consA [] false (biF (consA [] true (eSlot 7) nilA) tupS) nilA)))) (two (biF (consA [] true (eSlot 3) nilA) reprS) (eSlot 4) neS)) (seqS (retS [] (eLit (.bl false)))
  nxS) nxS)
  nxS)))))))
  (seqS (retS [] (eLit (.bl true)))
  nxS)))
def f_law : FV := runF 11 1 none g_law
theorem b_law {X : Cx} (m_len : mg "len" = none) (m_list : mg "list" = none) (m_range : mg "range" = none) (m_repr : mg "repr" = none) (m_sorted : mg "sorted" = none) (m_tuple : mg "tuple" = none) (c__law_bag : Cal (cd0 P w K mg base) 1 "_law_bag" 1 none f__law_bag) (c__law_some : Cal (cd0 P w K mg base) 2 "_law_some" 2 (some 0) f__law_some) (c__law_dungeon : Cal (cd0 P w K mg base) 3 "_law_dungeon" 2 (some 0) f__law_dungeon) (c__law_any_lot : Cal (cd0 P w K mg base) 2 "_law_any_lot" 2 (some 0) f__law_any_lot) (c_rim_of : Cal (cd0 P w K mg base) 1 "rim_of" 2 none f_rim_of) (c__law_alike : Cal (cd0 P w K mg base) 1 "_law_alike" 2 none f__law_alike) (c_way_has_bar : Cal (cd0 P w K mg base) 2 "way_has_bar" 2 none f_way_has_bar) (c__law_mixed : Cal (cd0 P w K mg base) 2 "_law_mixed" 2 (some 0) f__law_mixed) (c__law_up : Cal (cd0 P w K mg base) 1 "_law_up" 2 none f__law_up) (c_branch_of : Cal (cd0 P w K mg base) 2 "branch_of" 2 none f_branch_of) (c__law_branch : Cal (cd0 P w K mg base) 2 "_law_branch" 2 none f__law_branch) (c_way_to : Cal (cd0 P w K mg base) 1 "way_to" 2 none f_way_to) (B : Bd X ⟨P, w, K, mg, base, N_law, defScope s_law, fun _ => true⟩ 3) : XB X [] (defBody s_law) g_law :=
  (xb_cons (B.set (own := true) (by kernel_rfl) rfl (B.call ⟨c__law_bag.ex⟩ (by decide) (by kernel_rfl) rfl (xa_cons rfl (B.slot (by kernel_rfl)) xa_nil)))
  (xb_cons (B.for_ (fun _ => rfl) (B.range1 (by kernel_rfl) m_range rfl (xa_cons rfl xp_int xa_nil)) (B.gname (by kernel_rfl)) (xb_cons (B.set (own := false) (by kernel_rfl) rfl (B.call ⟨c__law_dungeon.ex⟩ (by decide) (by kernel_rfl) rfl (xa_cons rfl (B.slot (by kernel_rfl)) (xa_cons rfl (B.call ⟨c__law_some.ex⟩ (by decide) (by kernel_rfl) rfl (xa_cons rfl (B.slot (by kernel_rfl)) (xa_cons rfl (xp_lst (xa_cons rfl xp_int (xa_cons rfl xp_int (xa_cons rfl xp_int xa_nil)))) xa_nil))) xa_nil))))
  (xb_cons (B.asgT (by kernel_rfl) (by kernel_rfl) (by kernel_rfl) (B.gtup rfl (xgs_cons rfl (B.gname (by kernel_rfl)) (xgs_cons rfl (B.gname (by kernel_rfl)) (xgs_cons rfl (B.gname (by kernel_rfl)) xgs_nil)))) (xp_tup (xa_cons rfl (B.repr (by kernel_rfl) m_repr rfl (xa_cons rfl (B.slot (by kernel_rfl)) xa_nil)) (xa_cons rfl (xp_idx rfl (B.slot (by kernel_rfl)) xp_int) (xa_cons rfl (B.call ⟨c__law_any_lot.ex⟩ (by decide) (by kernel_rfl) rfl (xa_cons rfl (B.slot (by kernel_rfl)) (xa_cons rfl (B.len (by kernel_rfl) m_len rfl (xa_cons rfl (xp_idx rfl (B.slot (by kernel_rfl)) xp_int) xa_nil)) xa_nil))) xa_nil)))))
  (xb_cons (B.setLc (oo := false) [("v", 8)] (by kernel_rfl) (by kernel_rfl) (by kernel_rfl) (by kernel_rfl) (by kernel_rfl) (by kernel_rfl) (by kernel_rfl) (fun _ => rfl) (B.range1 (by kernel_rfl) m_range rfl (xa_cons rfl (B.len (by kernel_rfl) m_len rfl (xa_cons rfl (B.slot (by kernel_rfl)) xa_nil)) xa_nil)) (fun X1 B1 => ⟨(B1.gname (by kernel_rfl)), (xts_one (PW.pt (xw_and (B1.tnmem rfl (B1.slot (by kernel_rfl)) (B1.slot (by kernel_rfl))) (xw_and1 (B1.tmem rfl (xp_idx rfl (xp_idx rfl (B1.slot (by kernel_rfl)) (B1.slot (by kernel_rfl))) xp_int) (B1.slot (by kernel_rfl))))))), (B1.slot (by kernel_rfl))⟩))
  (xb_cons (xs_if (PW.pt (xw_or (xt_not (xt_of (B.call ⟨c__law_alike.ex⟩ (by decide) (by kernel_rfl) rfl (xa_cons rfl (B.call ⟨c_rim_of.ex⟩ (by decide) (by kernel_rfl) rfl (xa_cons rfl (B.slot (by kernel_rfl)) (xa_cons rfl (B.slot (by kernel_rfl)) xa_nil))) (xa_cons rfl (B.tuple (by kernel_rfl) m_tuple rfl (xa_cons rfl (B.slot (by kernel_rfl)) xa_nil)) xa_nil))) (fun _ => rfl))) (xw_or1 (xt_not (xt_of (B.call ⟨c__law_alike.ex⟩ (by decide) (by kernel_rfl) rfl (xa_cons rfl (B.call ⟨c_way_has_bar.ex⟩ (by decide) (by kernel_rfl) rfl (xa_cons rfl (B.slot (by kernel_rfl)) (xa_cons rfl xp_non xa_nil))) (xa_cons rfl xp_bl xa_nil))) (fun _ => rfl)))))) (xb_cons (xs_ret xp_bl)
  xb_nil) xb_nil)
  (xb_cons (B.for_ (fun _ => rfl) (xi_it (xp_bin os_add (B.call ⟨c__law_mixed.ex⟩ (by decide) (by kernel_rfl) rfl (xa_cons rfl (B.slot (by kernel_rfl)) (xa_cons rfl (B.listRg (by kernel_rfl) m_list (by kernel_rfl) m_range rfl (B.len (by kernel_rfl) m_len rfl (xa_cons rfl (B.slot (by kernel_rfl)) xa_nil))) xa_nil))) (xp_lst (xa_cons rfl xp_int xa_nil)))) (B.gname (by kernel_rfl)) (xb_cons (B.set (own := false) (by kernel_rfl) rfl (B.call ⟨c__law_up.ex⟩ (by decide) (by kernel_rfl) rfl (xa_cons rfl (B.slot (by kernel_rfl)) (xa_cons rfl (B.slot (by kernel_rfl)) xa_nil))))
  (xb_cons (xs_if (xt_not (xt_of (B.call ⟨c__law_alike.ex⟩ (by decide) (by kernel_rfl) rfl (xa_cons rfl (B.call ⟨c_branch_of.ex⟩ (by decide) (by kernel_rfl) rfl (xa_cons rfl (B.slot (by kernel_rfl)) (xa_cons rfl (B.slot (by kernel_rfl)) xa_nil))) (xa_cons rfl (B.tuple (by kernel_rfl) m_tuple rfl (xa_cons rfl (B.call ⟨c__law_branch.ex⟩ (by decide) (by kernel_rfl) rfl (xa_cons rfl (B.slot (by kernel_rfl)) (xa_cons rfl (B.slot (by kernel_rfl)) xa_nil))) xa_nil)) xa_nil))) (fun _ => rfl))) (xb_cons (xs_ret xp_bl)
  xb_nil) xb_nil)
  (xb_cons (xs_if (xt_not (xt_of (B.call ⟨c__law_alike.ex⟩ (by decide) (by kernel_rfl) rfl (xa_cons rfl (B.call ⟨c_way_to.ex⟩ (by decide) (by kernel_rfl) rfl (xa_cons rfl (B.slot (by kernel_rfl)) (xa_cons rfl (B.slot (by kernel_rfl)) xa_nil))) (xa_cons rfl (B.tuple (by kernel_rfl) m_tuple rfl (xa_cons rfl (B.sorted (by kernel_rfl) m_sorted rfl (xa_cons rfl (B.slot (by kernel_rfl)) xa_nil)) xa_nil)) xa_nil))) (fun _ => rfl))) (xb_cons (xs_ret xp_bl)
  xb_nil) xb_nil)
  (xb_cons (xs_if (xt_not (xt_of (B.call ⟨c__law_alike.ex⟩ (by decide) (by kernel_rfl) rfl (xa_cons rfl (B.call ⟨c_way_has_bar.ex⟩ (by decide) (by kernel_rfl) rfl (xa_cons rfl (B.slot (by kernel_rfl)) (xa_cons rfl (B.slot (by kernel_rfl)) xa_nil))) (xa_cons rfl (B.ne (B.comp [("u", 10)] (by kernel_rfl) (by kernel_rfl) (fun _ => rfl) (xi_it (B.slot (by kernel_rfl))) (fun X2 B2 => ⟨(B2.gname (by kernel_rfl)), (xts_one (B2.teq (xp_idx rfl (xp_idx rfl (B2.slot (by kernel_rfl)) (B2.slot (by kernel_rfl))) xp_int) xp_str)), (B2.slot (by kernel_rfl))⟩)) (xp_lst xa_nil)) xa_nil))) (fun _ => rfl))) (xb_cons (xs_ret xp_bl)
  xb_nil) xb_nil)
  xb_nil)))))
  (xb_cons (xs_if (PW.pt (xw_or (xt_not (xt_of (B.call ⟨c__law_alike.ex⟩ (by decide) (by kernel_rfl) rfl (xa_cons rfl (B.call ⟨c_rim_of.ex⟩ (by decide) (by kernel_rfl) rfl (xa_cons rfl (B.slot (by kernel_rfl)) (xa_cons rfl (B.slot (by kernel_rfl)) xa_nil))) (xa_cons rfl (B.tuple (by kernel_rfl) m_tuple rfl (xa_cons rfl (B.slot (by kernel_rfl)) xa_nil)) xa_nil))) (fun _ => rfl))) (xw_or1 (B.tne (B.repr (by kernel_rfl) m_repr rfl (xa_cons rfl (B.slot (by kernel_rfl)) xa_nil)) (B.slot (by kernel_rfl)))))) (xb_cons (xs_ret xp_bl)
  xb_nil) xb_nil)
  xb_nil)))))))
  (xb_cons (xs_ret xp_bl)
  xb_nil)))
theorem sc_law : FnScope N_law ["script"] (defScope s_law) := ⟨rfl, rfl, rfl, by decide +kernel, rfl, by decide +kernel, by decide +kernel⟩
theorem k_law {f : Addr} {fd : FuncData} (m_len : mg "len" = none) (m_list : mg "list" = none) (m_range : mg "range" = none) (m_repr : mg "repr" = none) (m_sorted : mg "sorted" = none) (m_tuple : mg "tuple" = none) (c__law_bag : Cal (cd0 P w K mg base) 1 "_law_bag" 1 none f__law_bag) (c__law_some : Cal (cd0 P w K mg base) 2 "_law_some" 2 (some 0) f__law_some) (c__law_dungeon : Cal (cd0 P w K mg base) 3 "_law_dungeon" 2 (some 0) f__law_dungeon) (c__law_any_lot : Cal (cd0 P w K mg base) 2 "_law_any_lot" 2 (some 0) f__law_any_lot) (c_rim_of : Cal (cd0 P w K mg base) 1 "rim_of" 2 none f_rim_of) (c__law_alike : Cal (cd0 P w K mg base) 1 "_law_alike" 2 none f__law_alike) (c_way_has_bar : Cal (cd0 P w K mg base) 2 "way_has_bar" 2 none f_way_has_bar) (c__law_mixed : Cal (cd0 P w K mg base) 2 "_law_mixed" 2 (some 0) f__law_mixed) (c__law_up : Cal (cd0 P w K mg base) 1 "_law_up" 2 none f__law_up) (c_branch_of : Cal (cd0 P w K mg base) 2 "branch_of" 2 none f_branch_of) (c__law_branch : Cal (cd0 P w K mg base) 2 "_law_branch" 2 none f__law_branch) (c_way_to : Cal (cd0 P w K mg base) 1 "way_to" 2 none f_way_to) (F : FunD K "law" "law" (defArgs s_law) (defBody s_law) (defScope s_law) [] [] f fd) : FnG P w K mg base 4 f fd ["script"] (spP K 1 none f_law) :=
  fn_ok (l := none) F sc_law fun X B => b_law m_len m_list m_range m_repr m_sorted m_tuple c__law_bag c__law_some c__law_dungeon c__law_any_lot c_rim_of c__law_alike c_way_has_bar c__law_mixed c__law_up c_branch_of c__law_branch c_way_to B
theorem cal_law {f : Addr} {fd : FuncData} (m_len : mg "len" = none) (m_list : mg "list" = none) (m_range : mg "range" = none) (m_repr : mg "repr" = none) (m_sorted : mg "sorted" = none) (m_tuple : mg "tuple" = none) (c__law_bag : Cal (cd0 P w K mg base) 1 "_law_bag" 1 none f__law_bag) (c__law_some : Cal (cd0 P w K mg base) 2 "_law_some" 2 (some 0) f__law_some) (c__law_dungeon : Cal (cd0 P w K mg base) 3 "_law_dungeon" 2 (some 0) f__law_dungeon) (c__law_any_lot : Cal (cd0 P w K mg base) 2 "_law_any_lot" 2 (some 0) f__law_any_lot) (c_rim_of : Cal (cd0 P w K mg base) 1 "rim_of" 2 none f_rim_of) (c__law_alike : Cal (cd0 P w K mg base) 1 "_law_alike" 2 none f__law_alike) (c_way_has_bar : Cal (cd0 P w K mg base) 2 "way_has_bar" 2 none f_way_has_bar) (c__law_mixed : Cal (cd0 P w K mg base) 2 "_law_mixed" 2 (some 0) f__law_mixed) (c__law_up : Cal (cd0 P w K mg base) 1 "_law_up" 2 none f__law_up) (c_branch_of : Cal (cd0 P w K mg base) 2 "branch_of" 2 none f_branch_of) (c__law_branch : Cal (cd0 P w K mg base) 2 "_law_branch" 2 none f__law_branch) (c_way_to : Cal (cd0 P w K mg base) 1 "way_to" 2 none f_way_to) (F : FunD K "law" "law" (defArgs s_law) (defBody s_law) (defScope s_law) [] [] f fd) (hm : mg "law" = some (.ref f)) : Cal (cd0 P w K mg base) 4 "law" 1 none f_law :=
  ⟨f, fd, ["script"], k_law m_len m_list m_range m_repr m_sorted m_tuple c__law_bag c__law_some c__law_dungeon c__law_any_lot c_rim_of c__law_alike c_way_has_bar c__law_mixed c__law_up c_branch_of c__law_branch c_way_to F, hm, F.kp, F.bindsN fun _ _ _ _ _ _ us hl => match us, hl with | [_], _ => rfl⟩
end
/-! the head -/
def d__law_bag : He.DefD := ⟨("_law_bag", none), "_law_bag", "_law_bag", defArgs s__law_bag, defBody s__law_bag, defScope s__law_bag, [], []⟩
def d__law_take : He.DefD := ⟨("_law_take", none), "_law_take", "_law_take", defArgs s__law_take, defBody s__law_take, defScope s__law_take, [], []⟩
def d__law_some : He.DefD := ⟨("_law_some", none), "_law_some", "_law_some", defArgs s__law_some, defBody s__law_some, defScope s__law_some, [], []⟩
def d__law_dungeon : He.DefD := ⟨("_law_dungeon", none), "_law_dungeon", "_law_dungeon", defArgs s__law_dungeon, defBody s__law_dungeon, defScope s__law_dungeon, [], []⟩
def d__law_any_lot : He.DefD := ⟨("_law_any_lot", none), "_law_any_lot", "_law_any_lot", defArgs s__law_any_lot, defBody s__law_any_lot, defScope s__law_any_lot, [], []⟩
def d__law_mixed : He.DefD := ⟨("_law_mixed", none), "_law_mixed", "_law_mixed", defArgs s__law_mixed, defBody s__law_mixed, defScope s__law_mixed, [], []⟩
def d__law_up : He.DefD := ⟨("_law_up", none), "_law_up", "_law_up", defArgs s__law_up, defBody s__law_up, defScope s__law_up, [], []⟩
def d__law_alike : He.DefD := ⟨("_law_alike", none), "_law_alike", "_law_alike", defArgs s__law_alike, defBody s__law_alike, defScope s__law_alike, [], []⟩
def d_rim_of : He.DefD := ⟨("rim_of", none), "rim_of", "rim_of", defArgs s_rim_of, defBody s_rim_of, defScope s_rim_of, [], []⟩
def d_way_to : He.DefD := ⟨("way_to", none), "way_to", "way_to", defArgs s_way_to, defBody s_way_to, defScope s_way_to, [], []⟩
def d_way_has_bar : He.DefD := ⟨("way_has_bar", none), "way_has_bar", "way_has_bar", defArgs s_way_has_bar, defBody s_way_has_bar, defScope s_way_has_bar, [], []⟩
def d_children_of : He.DefD := ⟨("children_of", none), "children_of", "children_of", defArgs s_children_of, defBody s_children_of, defScope s_children_of, [], []⟩
def d_branch_of : He.DefD := ⟨("branch_of", none), "branch_of", "branch_of", defArgs s_branch_of, defBody s_branch_of, defScope s_branch_of, [], []⟩
def d__law_branch : He.DefD := ⟨("_law_branch", none), "_law_branch", "_law_branch", defArgs s__law_branch, defBody s__law_branch, defScope s__law_branch, [], []⟩
def d_law : He.DefD := ⟨("law", none), "law", "law", defArgs s_law, defBody s_law, defScope s_law, [], []⟩
def dfs : List He.DefD := [d__law_bag, d__law_take, d__law_some, d__law_dungeon, d__law_any_lot, d__law_mixed, d__law_up, d__law_alike, d_rim_of, d_way_to, d_way_has_bar, d_children_of, d_branch_of, d__law_branch, d_law]
def fas : List He.Fa := [.glo "_law_bag", .glo "_law_take", .glo "_law_some", .glo "_law_dungeon", .glo "_law_any_lot", .glo "_law_mixed", .glo "_law_up", .glo "_law_alike", .glo "rim_of", .glo "way_to", .glo "way_has_bar", .glo "children_of", .glo "branch_of", .glo "_law_branch", .glo "law", .free "abs", .free "any", .free "enumerate", .free "int", .free "len", .free "list", .free "max", .free "min", .free "range", .free "repr", .free "sorted", .free "sum", .free "tuple"]
abbrev R : PySem.W.OpenRow := PySem.W.OpenLaw.row PySem.Challenge.rw_wellstrewn_k15_branches_ways_rims
abbrev hk : PySem.W.Hook := He.hookD 4 fas dfs
def ob (s : PySem.W.SharedT) : He.AlD := He.obsDG 4 fas dfs (HandSHeadRun.getT s)
theorem ob_eq (s : PySem.W.SharedT) : ob s = hk.obs s.abs := He.obsDG_eq (HandSHeadRun.getT_eq s)
theorem run (w : World) : HandSHeadRun.RunEq R (PySem.W.view R.prog [16]) hk ob 4000 ["children_of", "branch_of", "way_to", "way_has_bar", "rim_of", "_law_bag", "_law_take", "_law_some", "_law_mixed", "_law_alike", "_law_dungeon", "_law_up", "_law_branch", "_law_any_lot"] w := by
  intro os
  kernel_rfl
theorem facts {P : Program} {w : World} {K : PySem.W.Frag} {h : Heap} {mg : Str → Option Value} {f : Addr} (X : K.In h) (G : h.Ns mainGlobals mg) (hfa : mg ("law" : Str) = some (.ref f)) (c : He.SaysD fas dfs K) :
    ∃ fd : FuncData, (∀ (s : Shared) (v : Value), BindsTo s fd ⟨[v], []⟩ [("script", v)]) ∧ ∀ base : Heap, K.In base → base.Ns mainGlobals mg → FnG P w K mg base 4 f fd ["script"] (spP K 1 none f_law) := by
  obtain ⟨fd0, F0⟩ := c.def_ 0 (d := d__law_bag) rfl
  obtain ⟨fd1, F1⟩ := c.def_ 1 (d := d__law_take) rfl
  obtain ⟨fd2, F2⟩ := c.def_ 2 (d := d__law_some) rfl
  obtain ⟨fd3, F3⟩ := c.def_ 3 (d := d__law_dungeon) rfl
  obtain ⟨fd4, F4⟩ := c.def_ 4 (d := d__law_any_lot) rfl
  obtain ⟨fd5, F5⟩ := c.def_ 5 (d := d__law_mixed) rfl
  obtain ⟨fd6, F6⟩ := c.def_ 6 (d := d__law_up) rfl
  obtain ⟨fd7, F7⟩ := c.def_ 7 (d := d__law_alike) rfl
  obtain ⟨fd8, F8⟩ := c.def_ 8 (d := d_rim_of) rfl
  obtain ⟨fd9, F9⟩ := c.def_ 9 (d := d_way_to) rfl
  obtain ⟨fd10, F10⟩ := c.def_ 10 (d := d_way_has_bar) rfl
  obtain ⟨fd11, F11⟩ := c.def_ 11 (d := d_children_of) rfl
  obtain ⟨fd12, F12⟩ := c.def_ 12 (d := d_branch_of) rfl
  obtain ⟨fd13, F13⟩ := c.def_ 13 (d := d__law_branch) rfl
  obtain ⟨fd14, F14⟩ := c.def_ 14 (d := d_law) rfl
  have m_abs : mg "abs" = none := He.free_ok X G (c.fact 15 (f := .free "abs") rfl)
  have m_any : mg "any" = none := He.free_ok X G (c.fact 16 (f := .free "any") rfl)
  have m_enumerate : mg "enumerate" = none := He.free_ok X G (c.fact 17 (f := .free "enumerate") rfl)
  have m_int : mg "int" = none := He.free_ok X G (c.fact 18 (f := .free "int") rfl)
  have m_len : mg "len" = none := He.free_ok X G (c.fact 19 (f := .free "len") rfl)
  have m_list : mg "list" = none := He.free_ok X G (c.fact 20 (f := .free "list") rfl)
  have m_max : mg "max" = none := He.free_ok X G (c.fact 21 (f := .free "max") rfl)
  have m_min : mg "min" = none := He.free_ok X G (c.fact 22 (f := .free "min") rfl)
  have m_range : mg "range" = none := He.free_ok X G (c.fact 23 (f := .free "range") rfl)
  have m_repr : mg "repr" = none := He.free_ok X G (c.fact 24 (f := .free "repr") rfl)
  have m_sorted : mg "sorted" = none := He.free_ok X G (c.fact 25 (f := .free "sorted") rfl)
  have m_sum : mg "sum" = none := He.free_ok X G (c.fact 26 (f := .free "sum") rfl)
  have m_tuple : mg "tuple" = none := He.free_ok X G (c.fact 27 (f := .free "tuple") rfl)
  have e := hfa.symm.trans (He.glo_ok X G (c.fact 14 (f := .glo "law") rfl))
  cases e
  have b := FunD.bindsA (ps := ["script"]) F14 fun _ _ _ _ _ _ us hl => match us, hl with | [_], _ => rfl
  refine ⟨fd14, fun s v => b s [v] rfl, fun base _ _ => ?_⟩
  have c__law_bag := cal__law_bag (P := P) (w := w) (base := base) m_abs F0 (He.glo_ok X G (c.fact 0 (f := .glo "_law_bag") rfl))
  have c__law_take := cal__law_take (P := P) (w := w) (base := base) m_int F1 (He.glo_ok X G (c.fact 1 (f := .glo "_law_take") rfl))
  have c__law_some := cal__law_some (P := P) (w := w) (base := base) m_len c__law_take F2 (He.glo_ok X G (c.fact 2 (f := .glo "_law_some") rfl))
  have c__law_dungeon := cal__law_dungeon (P := P) (w := w) (base := base) m_int m_len m_max m_min m_range m_sum m_tuple c__law_some c__law_take F3 (He.glo_ok X G (c.fact 3 (f := .glo "_law_dungeon") rfl))
  have c__law_any_lot := cal__law_any_lot (P := P) (w := w) (base := base) m_range m_tuple c__law_take F4 (He.glo_ok X G (c.fact 4 (f := .glo "_law_any_lot") rfl))
  have c__law_mixed := cal__law_mixed (P := P) (w := w) (base := base) m_len c__law_take F5 (He.glo_ok X G (c.fact 5 (f := .glo "_law_mixed") rfl))
  have c__law_up := cal__law_up (P := P) (w := w) (base := base) m_len m_range F6 (He.glo_ok X G (c.fact 6 (f := .glo "_law_up") rfl))
  have c__law_alike := cal__law_alike (P := P) (w := w) (base := base) m_repr F7 (He.glo_ok X G (c.fact 7 (f := .glo "_law_alike") rfl))
  have c_rim_of := cal_rim_of (P := P) (w := w) (base := base) m_enumerate m_tuple F8 (He.glo_ok X G (c.fact 8 (f := .glo "rim_of") rfl))
  have c_way_to := cal_way_to (P := P) (w := w) (base := base) m_sorted m_tuple F9 (He.glo_ok X G (c.fact 9 (f := .glo "way_to") rfl))
  have c_way_has_bar := cal_way_has_bar (P := P) (w := w) (base := base) m_any c_way_to F10 (He.glo_ok X G (c.fact 10 (f := .glo "way_has_bar") rfl))
  have c_children_of := cal_children_of (P := P) (w := w) (base := base) m_enumerate F11 (He.glo_ok X G (c.fact 11 (f := .glo "children_of") rfl))
  have c_branch_of := cal_branch_of (P := P) (w := w) (base := base) m_len m_sorted m_tuple c_children_of F12 (He.glo_ok X G (c.fact 12 (f := .glo "branch_of") rfl))
  have c__law_branch := cal__law_branch (P := P) (w := w) (base := base) m_len m_range c__law_up F13 (He.glo_ok X G (c.fact 13 (f := .glo "_law_branch") rfl))
  exact k_law m_len m_list m_range m_repr m_sorted m_tuple c__law_bag c__law_some c__law_dungeon c__law_any_lot c_rim_of c__law_alike c_way_has_bar c__law_mixed c__law_up c_branch_of c__law_branch c_way_to F14
end K15

namespace K15
open PySem PySem.Spec PyProof.Rows L2 Pf
/-! dungeons -/
structure Room where
  par : Option Nat
  way : D
  many : Int
def natD (v : Nat) : D := .int v
def parD : Option Nat → D
  | none => .non
  | some p => natD p
def roomD (r : Room) : D := .tup [parD r.par, r.way, .int r.many]
def dunD (rs : List Room) (k : Int) : D := .tup [.tup (rs.map roomD), .int k]
def okWay (d : D) : Prop := d = .non ∨ d = .str "open" ∨ d = .str "lock" ∨ d = .str "bar"
structure Dun (rs : List Room) : Prop where
  pos : 0 < rs.length
  len : rs.length ≤ 11
  up : ∀ (v : Nat) (r : Room), rs[v]? = some r → ∀ p, r.par = some p → p < v
  way : ∀ r ∈ rs, okWay r.way
  many : ∀ r ∈ rs, 0 ≤ r.many ∧ r.many ≤ 2
def parOf (rs : List Room) (v : Nat) : Option Nat := (rs[v]?).bind fun r => r.par
theorem Dun.par_lt {rs : List Room} (g : Dun rs) {v p : Nat} (h : parOf rs v = some p) : p < v := by
  unfold parOf at h
  cases e : rs[v]? with
  | none => rw [e] at h; cases h
  | some r => rw [e] at h; exact g.up v r e p h
theorem par_in {rs : List Room} {v p : Nat} (h : parOf rs v = some p) : v < rs.length := by
  unfold parOf at h
  cases e : rs[v]? with
  | none => rw [e] at h; cases h
  | some r => exact (List.getElem?_eq_some_iff.mp e).1
theorem len_tupD (ds : List D) : lenS [.fz (.tup ds)] = .ok (.fz (.int ds.length)) := (rfl)
theorem idx_dun0 (rs : List Room) (k : Int) : idxS (.fz (dunD rs k)) (.fz (.int 0)) = .ok (.fz (.tup (rs.map roomD))) := by
  unfold dunD
  rw [idx_tup, atI0]
  rfl
theorem idx_room {rs : List Room} {v : Nat} {r : Room} (h : rs[v]? = some r) : idxS (.fz (.tup (rs.map roomD))) (.fz (natD v)) = .ok (.fz (roomD r)) := by
  have hv : v < rs.length := (List.getElem?_eq_some_iff.mp h).1
  unfold natD
  rw [idx_tup, atI_lt (by omega) (by rw [List.length_map]; omega), Int.toNat_natCast, List.getElem?_map, h]
  rfl
theorem idx_par (r : Room) : idxS (.fz (roomD r)) (.fz (.int 0)) = .ok (.fz (parD r.par)) := by
  unfold roomD
  rw [idx_tup, atI0]
  rfl
theorem idx_way (r : Room) : idxS (.fz (roomD r)) (.fz (.int 1)) = .ok (.fz r.way) := by
  unfold roomD
  rw [idx_tup, atI1]
  rfl
/-! the way up -/
def upL (rs : List Room) : Nat → Option Nat → List Nat
  | 0, _ => []
  | _, none => []
  | n + 1, some v => v :: upL rs n (parOf rs v)
theorem upL_none (rs : List Room) (n : Nat) : upL rs n none = [] := by cases n <;> rfl
theorem upL_more {rs : List Room} (g : Dun rs) : ∀ (n m : Nat) (o : Option Nat), (∀ v, o = some v → v < n) → n ≤ m → upL rs m o = upL rs n o
  | n, m, none, _, _ => by rw [upL_none, upL_none]
  | 0, m, some v, h, _ => absurd (h v rfl) (by omega)
  | n + 1, 0, some v, _, h => absurd h (by omega)
  | n + 1, m + 1, some v, h, hm => by
    rw [upL, upL, upL_more g n m (parOf rs v) (fun p hp => by have := g.par_lt hp; have := h v rfl; omega) (by omega)]
def up (rs : List Room) (v : Nat) : List Nat := upL rs (v + 1) (some v)
theorem up_eq {rs : List Room} (g : Dun rs) (v : Nat) : up rs v = v :: (match parOf rs v with | none => [] | some p => up rs p) := by
  unfold up
  rw [upL]
  cases h : parOf rs v with
  | none => rw [upL_none]
  | some p =>
    have := g.par_lt h
    rw [upL_more g (p + 1) v (some p) (fun q hq => by cases hq; omega) (by omega)]
def natsD (l : List Nat) : List D := l.map natD
theorem isnot_par (o : Option Nat) : isnotS (.fz (parD o)) (.fz .non) = .ok (.fz (.bl o.isSome)) := by cases o <;> rfl
theorem way_loop {rs : List Room} {k : Int} (g : Dun rs) (m : Nat) : ∀ (n : Nat) (o : Option Nat) (acc : List Nat), (∀ v, o = some v → v < m ∧ v < rs.length) → m < n → acc.length + m ≤ 1000 →
    whl (two (eSlot 1) (eLit .non) isnotS) (seqS (exS (mthF 2 (consA [] false (eSlot 1) nilA) appendM)) (seqS (setS [] 1 false (two (two (two (eSlot 0) (eLit (.int 0)) idxS) (eSlot 1) idxS) (eLit (.int 0)) idxS)) nxS)) n
      [some (.fz (dunD rs k)), some (.fz (parD o)), some (.ls ((natsD acc).map OV.fz))] = .ok (.nx, [some (.fz (dunD rs k)), some (.fz .non), some (.ls ((natsD (acc ++ upL rs m o)).map OV.fz))]) := by
  induction m with
  | zero =>
    intro n o acc ho hn hz
    obtain ⟨n, rfl⟩ : ∃ j, n = j + 1 := ⟨n - 1, by omega⟩
    cases o with
    | some v => have := (ho v rfl).1; omega
    | none =>
      rw [whl_e]
      simp only [okb, badb, gdt, sl0, slS, eSlot_e, eSlotK_some, eLit_e, opd_val, opd_sl, vw_val, vw_sl, er_fz, er_ls, two_e, twoK_e, twoL_e, twoM_e, valK_e, tru_e, truK_e, truM_e, blK_e, boF_e, boK_e, boM_e, boN_tt, boN_tf, boN_ft, boN_ff, notF_e, notK_e, iteF_e, iteK_t, iteK_f, negF_e, negK_e, negM_e, nilA_e, consA_e, consA1_e, consA2_e, consA3_e, kept_t, kept_f, keptK_e, settle_val, settle_sl, frzSlot_fz, frzSlot_ls, tupF_e, lstF_e, tupK_e, dsK_e, datas_nil, datas_cons, vws_nil, vws_cons, vwsK_e, biF_e, biK_e, biM_e, rngF_e, rngK_e, rngM_e, itsK_e, callF_e, callK_e, callN_none, callN_some, argsOf_none, argsOf_zero, argsOf_succ, argL_e, noneO_e, someO_e, someK_e, someM_e, sliF_e, sliK_e, sliL1_e, sliL2_e, sliM_e, nxS_e, bkS_e, ctS_e, seqS_e, seqK_nx, seqK_rt, seqK_bk, seqK_ct, ifS_e, ifK_t, ifK_f, exS_e, exK_e, retS_e, retK_e, retL_e, retN_e, give_val, give_sl, giveSlot_fz, giveSlot_ls, take_tv, take_ts, take_f, takeK_e, nxK_e, setS_e, setK_e, setL2_e, asgS_e, asgK_e, asgL_e, nameG_e, nilG_e, consG_e, stS_e, stK_e, stL1_e, stL2_e, stL3_e, stM_e, intOf_e, setAt_e, setAtN_e, intAt_e, intAtM_e, augS_e, augK_e, augL2_e, augKey_e, augO_e, augL3_e, augP_e, augN_e, augN1_e, augN2_e, augN3_e, nilL_e, consL_e, consL1_e, consL2_e, consL3_e, parS_e, parK_e, putL_nil, putL_cons, whlK_t, whlK_f, whlL_nx, whlL_ct, whlL_bk, whlL_rt, forK1_e, forK2_nx, forK2_ct, forK2_bk, forK2_rt, forS_e, forK_e, itF_e, itK_e, itL_e, itM_e, items_tup, items_lst, items_str, compF_e, compK2_e, yesT_e, truth_bl, eqS_int, neS_int, ltS_int, gtS_int, leS_int, geS_int, addS_int, subS_int, mulS_int, divS_int, modS_int, intS_int, idx_ls, idx_lst, idx_tup, idxM_e, idxD_e, atI0, atI1, atI2, atI3, slice_tup, slice_lst, ers_nil, ers_cons, ers_map, cat_lst, cat_tup, set_0, set_1, set_2, runK_rt, runK_nx, runL_e, lent_none, lent_some, wipe_n, wipe_c, back_n, back_c, of_some, mthF_e, mthL_e, mthK_e, mthM_e, mthN_e, napp_e, qSlot_e, fzOf_e, rgLF_e, rgLK_e, rgLM_e, putS, Option.map_some, List.set_cons_zero, List.set_cons_succ, List.map_cons, List.map_nil, List.length_cons, List.length_nil, List.length_set, List.mem_cons, List.not_mem_nil, or_false, Nat.reduceAdd, Nat.reduceLT, Nat.reduceEqDiff, List.nil_append, List.cons_append, List.replicate, Nat.reduceSub, not_false_eq_true, decide_true, Bool.and_self, Int.reduceLT, Int.reduceLE, isnot_par, Option.isSome_none, upL, List.append_nil]
      rfl
  | succ m ih =>
    intro n o acc ho hn hz
    obtain ⟨n, rfl⟩ : ∃ j, n = j + 1 := ⟨n - 1, by omega⟩
    cases o with
    | none =>
      rw [whl_e]
      simp only [okb, badb, gdt, sl0, slS, eSlot_e, eSlotK_some, eLit_e, opd_val, opd_sl, vw_val, vw_sl, er_fz, er_ls, two_e, twoK_e, twoL_e, twoM_e, valK_e, tru_e, truK_e, truM_e, blK_e, boF_e, boK_e, boM_e, boN_tt, boN_tf, boN_ft, boN_ff, notF_e, notK_e, iteF_e, iteK_t, iteK_f, negF_e, negK_e, negM_e, nilA_e, consA_e, consA1_e, consA2_e, consA3_e, kept_t, kept_f, keptK_e, settle_val, settle_sl, frzSlot_fz, frzSlot_ls, tupF_e, lstF_e, tupK_e, dsK_e, datas_nil, datas_cons, vws_nil, vws_cons, vwsK_e, biF_e, biK_e, biM_e, rngF_e, rngK_e, rngM_e, itsK_e, callF_e, callK_e, callN_none, callN_some, argsOf_none, argsOf_zero, argsOf_succ, argL_e, noneO_e, someO_e, someK_e, someM_e, sliF_e, sliK_e, sliL1_e, sliL2_e, sliM_e, nxS_e, bkS_e, ctS_e, seqS_e, seqK_nx, seqK_rt, seqK_bk, seqK_ct, ifS_e, ifK_t, ifK_f, exS_e, exK_e, retS_e, retK_e, retL_e, retN_e, give_val, give_sl, giveSlot_fz, giveSlot_ls, take_tv, take_ts, take_f, takeK_e, nxK_e, setS_e, setK_e, setL2_e, asgS_e, asgK_e, asgL_e, nameG_e, nilG_e, consG_e, stS_e, stK_e, stL1_e, stL2_e, stL3_e, stM_e, intOf_e, setAt_e, setAtN_e, intAt_e, intAtM_e, augS_e, augK_e, augL2_e, augKey_e, augO_e, augL3_e, augP_e, augN_e, augN1_e, augN2_e, augN3_e, nilL_e, consL_e, consL1_e, consL2_e, consL3_e, parS_e, parK_e, putL_nil, putL_cons, whlK_t, whlK_f, whlL_nx, whlL_ct, whlL_bk, whlL_rt, forK1_e, forK2_nx, forK2_ct, forK2_bk, forK2_rt, forS_e, forK_e, itF_e, itK_e, itL_e, itM_e, items_tup, items_lst, items_str, compF_e, compK2_e, yesT_e, truth_bl, eqS_int, neS_int, ltS_int, gtS_int, leS_int, geS_int, addS_int, subS_int, mulS_int, divS_int, modS_int, intS_int, idx_ls, idx_lst, idx_tup, idxM_e, idxD_e, atI0, atI1, atI2, atI3, slice_tup, slice_lst, ers_nil, ers_cons, ers_map, cat_lst, cat_tup, set_0, set_1, set_2, runK_rt, runK_nx, runL_e, lent_none, lent_some, wipe_n, wipe_c, back_n, back_c, of_some, mthF_e, mthL_e, mthK_e, mthM_e, mthN_e, napp_e, qSlot_e, fzOf_e, rgLF_e, rgLK_e, rgLM_e, putS, Option.map_some, List.set_cons_zero, List.set_cons_succ, List.map_cons, List.map_nil, List.length_cons, List.length_nil, List.length_set, List.mem_cons, List.not_mem_nil, or_false, Nat.reduceAdd, Nat.reduceLT, Nat.reduceEqDiff, List.nil_append, List.cons_append, List.replicate, Nat.reduceSub, not_false_eq_true, decide_true, Bool.and_self, Int.reduceLT, Int.reduceLE, isnot_par, Option.isSome_none, upL_none, List.append_nil]
      rfl
    | some v =>
      obtain ⟨h1, h2⟩ := ho v rfl
      have hr : rs[v]? = some rs[v] := List.getElem?_eq_getElem h2
      have hp : parOf rs v = rs[v].par := by unfold parOf; rw [hr]; rfl
      have hpd : parD (some v) = natD v := rfl
      rw [whl_e]
      have ha := append_ok (natsD acc) (natD v) (by unfold natsD; rw [List.length_map]; omega)
      have hi := ih n (parOf rs v) (acc ++ [v]) (fun p hp => by have := g.par_lt hp; exact ⟨by omega, by omega⟩) (by omega) (by rw [List.length_append, List.length_singleton]; omega)
      have hna : natsD acc ++ [natD v] = natsD (acc ++ [v]) := by unfold natsD; rw [List.map_append]; rfl
      rw [hpd]
      have hin : isnotS (.fz (natD v)) (.fz .non) = .ok (.fz (.bl true)) := rfl
      simp only [okb, badb, gdt, sl0, slS, eSlot_e, eSlotK_some, eLit_e, opd_val, opd_sl, vw_val, vw_sl, er_fz, er_ls, two_e, twoK_e, twoL_e, twoM_e, valK_e, tru_e, truK_e, truM_e, blK_e, boF_e, boK_e, boM_e, boN_tt, boN_tf, boN_ft, boN_ff, notF_e, notK_e, iteF_e, iteK_t, iteK_f, negF_e, negK_e, negM_e, nilA_e, consA_e, consA1_e, consA2_e, consA3_e, kept_t, kept_f, keptK_e, settle_val, settle_sl, frzSlot_fz, frzSlot_ls, tupF_e, lstF_e, tupK_e, dsK_e, datas_nil, datas_cons, vws_nil, vws_cons, vwsK_e, biF_e, biK_e, biM_e, rngF_e, rngK_e, rngM_e, itsK_e, callF_e, callK_e, callN_none, callN_some, argsOf_none, argsOf_zero, argsOf_succ, argL_e, noneO_e, someO_e, someK_e, someM_e, sliF_e, sliK_e, sliL1_e, sliL2_e, sliM_e, nxS_e, bkS_e, ctS_e, seqS_e, seqK_nx, seqK_rt, seqK_bk, seqK_ct, ifS_e, ifK_t, ifK_f, exS_e, exK_e, retS_e, retK_e, retL_e, retN_e, give_val, give_sl, giveSlot_fz, giveSlot_ls, take_tv, take_ts, take_f, takeK_e, nxK_e, setS_e, setK_e, setL2_e, asgS_e, asgK_e, asgL_e, nameG_e, nilG_e, consG_e, stS_e, stK_e, stL1_e, stL2_e, stL3_e, stM_e, intOf_e, setAt_e, setAtN_e, intAt_e, intAtM_e, augS_e, augK_e, augL2_e, augKey_e, augO_e, augL3_e, augP_e, augN_e, augN1_e, augN2_e, augN3_e, nilL_e, consL_e, consL1_e, consL2_e, consL3_e, parS_e, parK_e, putL_nil, putL_cons, whlK_t, whlK_f, whlL_nx, whlL_ct, whlL_bk, whlL_rt, forK1_e, forK2_nx, forK2_ct, forK2_bk, forK2_rt, forS_e, forK_e, itF_e, itK_e, itL_e, itM_e, items_tup, items_lst, items_str, compF_e, compK2_e, yesT_e, truth_bl, eqS_int, neS_int, ltS_int, gtS_int, leS_int, geS_int, addS_int, subS_int, mulS_int, divS_int, modS_int, intS_int, idx_ls, idx_lst, idx_tup, idxM_e, idxD_e, atI0, atI1, atI2, atI3, slice_tup, slice_lst, ers_nil, ers_cons, ers_map, cat_lst, cat_tup, set_0, set_1, set_2, runK_rt, runK_nx, runL_e, lent_none, lent_some, wipe_n, wipe_c, back_n, back_c, of_some, mthF_e, mthL_e, mthK_e, mthM_e, mthN_e, napp_e, qSlot_e, fzOf_e, rgLF_e, rgLK_e, rgLM_e, putS, Option.map_some, List.set_cons_zero, List.set_cons_succ, List.map_cons, List.map_nil, List.length_cons, List.length_nil, List.length_set, List.mem_cons, List.not_mem_nil, or_false, Nat.reduceAdd, Nat.reduceLT, Nat.reduceEqDiff, List.nil_append, List.cons_append, List.replicate, Nat.reduceSub, not_false_eq_true, decide_true, Bool.and_self, Int.reduceLT, Int.reduceLE, hin, ha, hna, idx_dun0, idx_room hr, idx_par, ← hp, hi, upL, List.append_assoc]
      all_goals rfl
def intsOf' (l : List Nat) : List Int := l.map fun (u : Nat) => (u : Int)
def srt (l : List Nat) : List D := ((intsOf' l).mergeSort fun a b => decide (a ≤ b)).map D.int
theorem natsD_eq (l : List Nat) : natsD l = (intsOf' l).map D.int := by unfold natsD intsOf'; rw [List.map_map]; rfl
theorem sortS_nats (l : List Nat) (h : l.length ≤ 1000000) : sortS [.ls ((natsD l).map OV.fz)] = .ok (.ls ((srt l).map OV.fz)) := by
  rw [natsD_eq]
  exact sortS_ints _ (by unfold intsOf'; rw [List.length_map]; exact h)
theorem upL_len (rs : List Room) : ∀ n o, (upL rs n o).length ≤ n
  | 0, _ => by rw [upL]; exact Nat.le_refl _
  | n + 1, none => by rw [upL_none]; exact Nat.zero_le _
  | n + 1, some v => by rw [upL, List.length_cons]; have := upL_len rs n (parOf rs v); omega
theorem sortS_fz (ds : List D) : sortS [.fz (.lst ds)] = sortS [.ls (ds.map OV.fz)] := by
  unfold sortS
  dsimp only
  rw [listOf_ls, listOf_lst]
theorem tupS_fz (ds : List D) : tupS [.fz (.lst ds)] = .ok (.fz (.tup ds)) := (rfl)
theorem way_to_spec {rs : List Room} {k : Int} (g : Dun rs) {v : Nat} (hv : v < rs.length) : f_way_to [.fz (dunD rs k), .fz (natD v)] = .ok (.fz (.tup (srt (up rs v))), .fz .non) := by
  have hl := g.len
  unfold f_way_to g_way_to whlS
  rw [runF_e]
  case h => rfl
  have e := way_loop (k := k) g (v + 1) WF (some v) [] (fun u hu => by cases hu; exact ⟨by omega, hv⟩) (by unfold WF; omega) (by rw [List.length_nil]; omega)
  have hpd : parD (some v) = natD v := rfl
  have hnil : (natsD []).map OV.fz = [] := rfl
  rw [hpd, hnil, List.nil_append] at e
  have hul : (up rs v).length ≤ v + 1 := upL_len rs _ _
  have hs := sortS_nats (up rs v) (by omega)
  have hu : upL rs (v + 1) (some v) = up rs v := rfl
  rw [hu] at e
  simp only [okb, badb, gdt, sl0, slS, eSlot_e, eSlotK_some, eLit_e, opd_val, opd_sl, vw_val, vw_sl, er_fz, er_ls, two_e, twoK_e, twoL_e, twoM_e, valK_e, tru_e, truK_e, truM_e, blK_e, boF_e, boK_e, boM_e, boN_tt, boN_tf, boN_ft, boN_ff, notF_e, notK_e, iteF_e, iteK_t, iteK_f, negF_e, negK_e, negM_e, nilA_e, consA_e, consA1_e, consA2_e, consA3_e, kept_t, kept_f, keptK_e, settle_val, settle_sl, frzSlot_fz, frzSlot_ls, tupF_e, lstF_e, tupK_e, dsK_e, datas_nil, datas_cons, vws_nil, vws_cons, vwsK_e, biF_e, biK_e, biM_e, rngF_e, rngK_e, rngM_e, itsK_e, callF_e, callK_e, callN_none, callN_some, argsOf_none, argsOf_zero, argsOf_succ, argL_e, noneO_e, someO_e, someK_e, someM_e, sliF_e, sliK_e, sliL1_e, sliL2_e, sliM_e, nxS_e, bkS_e, ctS_e, seqS_e, seqK_nx, seqK_rt, seqK_bk, seqK_ct, ifS_e, ifK_t, ifK_f, exS_e, exK_e, retS_e, retK_e, retL_e, retN_e, give_val, give_sl, giveSlot_fz, giveSlot_ls, take_tv, take_ts, take_f, takeK_e, nxK_e, setS_e, setK_e, setL2_e, asgS_e, asgK_e, asgL_e, nameG_e, nilG_e, consG_e, stS_e, stK_e, stL1_e, stL2_e, stL3_e, stM_e, intOf_e, setAt_e, setAtN_e, intAt_e, intAtM_e, augS_e, augK_e, augL2_e, augKey_e, augO_e, augL3_e, augP_e, augN_e, augN1_e, augN2_e, augN3_e, nilL_e, consL_e, consL1_e, consL2_e, consL3_e, parS_e, parK_e, putL_nil, putL_cons, whlK_t, whlK_f, whlL_nx, whlL_ct, whlL_bk, whlL_rt, forK1_e, forK2_nx, forK2_ct, forK2_bk, forK2_rt, forS_e, forK_e, itF_e, itK_e, itL_e, itM_e, items_tup, items_lst, items_str, compF_e, compK2_e, yesT_e, truth_bl, eqS_int, neS_int, ltS_int, gtS_int, leS_int, geS_int, addS_int, subS_int, mulS_int, divS_int, modS_int, intS_int, idx_ls, idx_lst, idx_tup, idxM_e, idxD_e, atI0, atI1, atI2, atI3, slice_tup, slice_lst, ers_nil, ers_cons, ers_map, cat_lst, cat_tup, set_0, set_1, set_2, runK_rt, runK_nx, runL_e, lent_none, lent_some, wipe_n, wipe_c, back_n, back_c, of_some, mthF_e, mthL_e, mthK_e, mthM_e, mthN_e, napp_e, qSlot_e, fzOf_e, rgLF_e, rgLK_e, rgLM_e, putS, Option.map_some, List.set_cons_zero, List.set_cons_succ, List.map_cons, List.map_nil, List.length_cons, List.length_nil, List.length_set, List.mem_cons, List.not_mem_nil, or_false, Nat.reduceAdd, Nat.reduceLT, Nat.reduceEqDiff, List.nil_append, List.cons_append, List.replicate, Nat.reduceSub, not_false_eq_true, decide_true, Bool.and_self, Int.reduceLT, Int.reduceLE, size_ok 0 (by decide), List.map_nil, List.nil_append, e, hs, tupS_fz]
/-! the law's own way up -/
theorem lup_loop {rs : List Room} {k : Int} (g : Dun rs) (m : Nat) : ∀ (ds : List D) (o : Option Nat) (acc : List Nat) (o3 : Option OV), (∀ v, o = some v → v < rs.length) → ds.length = m → acc.length + m ≤ 1000 →
    ∃ p' o3', forL (nameG [] 3) (seqS (ifS (two (eSlot 1) (eLit .non) isnotS) (seqS (exS (mthF 2 (consA [] false (eSlot 1) nilA) appendM)) (seqS (setS [] 1 false (two (two (two (eSlot 0) (eLit (.int 0)) idxS) (eSlot 1) idxS) (eLit (.int 0)) idxS)) nxS)) nxS) nxS) ds
      [some (.fz (dunD rs k)), some (.fz (parD o)), some (.ls ((natsD acc).map OV.fz)), o3] = .ok (.nx, [some (.fz (dunD rs k)), some (.fz (parD p')), some (.ls ((natsD (acc ++ upL rs m o)).map OV.fz)), o3']) := by
  induction m with
  | zero =>
    intro ds o acc o3 ho hd hz
    have : ds = [] := List.length_eq_zero_iff.mp hd
    subst this
    refine ⟨o, o3, ?_⟩
    rw [forL_nil]
    cases o <;> rw [upL, List.append_nil]
  | succ m ih =>
    intro ds o acc o3 ho hd hz
    cases ds with
    | nil => simp at hd
    | cons d ds =>
      have hd' : ds.length = m := by simpa using hd
      cases o with
      | none =>
        obtain ⟨p', o3', e⟩ := ih ds none acc (some (.fz d)) (fun v h => by cases h) hd' (by omega)
        refine ⟨p', o3', ?_⟩
        rw [forL_cons]
        rw [upL_none] at e ⊢
        simp only [okb, badb, gdt, sl0, slS, eSlot_e, eSlotK_some, eLit_e, opd_val, opd_sl, vw_val, vw_sl, er_fz, er_ls, two_e, twoK_e, twoL_e, twoM_e, valK_e, tru_e, truK_e, truM_e, blK_e, boF_e, boK_e, boM_e, boN_tt, boN_tf, boN_ft, boN_ff, notF_e, notK_e, iteF_e, iteK_t, iteK_f, negF_e, negK_e, negM_e, nilA_e, consA_e, consA1_e, consA2_e, consA3_e, kept_t, kept_f, keptK_e, settle_val, settle_sl, frzSlot_fz, frzSlot_ls, tupF_e, lstF_e, tupK_e, dsK_e, datas_nil, datas_cons, vws_nil, vws_cons, vwsK_e, biF_e, biK_e, biM_e, rngF_e, rngK_e, rngM_e, itsK_e, callF_e, callK_e, callN_none, callN_some, argsOf_none, argsOf_zero, argsOf_succ, argL_e, noneO_e, someO_e, someK_e, someM_e, sliF_e, sliK_e, sliL1_e, sliL2_e, sliM_e, nxS_e, bkS_e, ctS_e, seqS_e, seqK_nx, seqK_rt, seqK_bk, seqK_ct, ifS_e, ifK_t, ifK_f, exS_e, exK_e, retS_e, retK_e, retL_e, retN_e, give_val, give_sl, giveSlot_fz, giveSlot_ls, take_tv, take_ts, take_f, takeK_e, nxK_e, setS_e, setK_e, setL2_e, asgS_e, asgK_e, asgL_e, nameG_e, nilG_e, consG_e, stS_e, stK_e, stL1_e, stL2_e, stL3_e, stM_e, intOf_e, setAt_e, setAtN_e, intAt_e, intAtM_e, augS_e, augK_e, augL2_e, augKey_e, augO_e, augL3_e, augP_e, augN_e, augN1_e, augN2_e, augN3_e, nilL_e, consL_e, consL1_e, consL2_e, consL3_e, parS_e, parK_e, putL_nil, putL_cons, whlK_t, whlK_f, whlL_nx, whlL_ct, whlL_bk, whlL_rt, forK1_e, forK2_nx, forK2_ct, forK2_bk, forK2_rt, forS_e, forK_e, itF_e, itK_e, itL_e, itM_e, items_tup, items_lst, items_str, compF_e, compK2_e, yesT_e, truth_bl, eqS_int, neS_int, ltS_int, gtS_int, leS_int, geS_int, addS_int, subS_int, mulS_int, divS_int, modS_int, intS_int, idx_ls, idx_lst, idx_tup, idxM_e, idxD_e, atI0, atI1, atI2, atI3, slice_tup, slice_lst, ers_nil, ers_cons, ers_map, cat_lst, cat_tup, set_0, set_1, set_2, runK_rt, runK_nx, runL_e, lent_none, lent_some, wipe_n, wipe_c, back_n, back_c, of_some, mthF_e, mthL_e, mthK_e, mthM_e, mthN_e, napp_e, qSlot_e, fzOf_e, rgLF_e, rgLK_e, rgLM_e, putS, Option.map_some, List.set_cons_zero, List.set_cons_succ, List.map_cons, List.map_nil, List.length_cons, List.length_nil, List.length_set, List.mem_cons, List.not_mem_nil, or_false, Nat.reduceAdd, Nat.reduceLT, Nat.reduceEqDiff, List.nil_append, List.cons_append, List.replicate, Nat.reduceSub, not_false_eq_true, decide_true, Bool.and_self, Int.reduceLT, Int.reduceLE, isnot_par, Option.isSome_none, e]
      | some v =>
        have h2 := ho v rfl
        have hr : rs[v]? = some rs[v] := List.getElem?_eq_getElem h2
        have hp : parOf rs v = rs[v].par := by unfold parOf; rw [hr]; rfl
        have hpd : parD (some v) = natD v := rfl
        have ha := append_ok (natsD acc) (natD v) (by unfold natsD; rw [List.length_map]; omega)
        have hna : natsD acc ++ [natD v] = natsD (acc ++ [v]) := by unfold natsD; rw [List.map_append]; rfl
        have hin : isnotS (.fz (natD v)) (.fz .non) = .ok (.fz (.bl true)) := rfl
        obtain ⟨p', o3', e⟩ := ih ds (parOf rs v) (acc ++ [v]) (some (.fz d)) (fun p hp => by have := g.par_lt hp; omega) hd' (by rw [List.length_append, List.length_singleton]; omega)
        refine ⟨p', o3', ?_⟩
        rw [forL_cons, hpd]
        simp only [okb, badb, gdt, sl0, slS, eSlot_e, eSlotK_some, eLit_e, opd_val, opd_sl, vw_val, vw_sl, er_fz, er_ls, two_e, twoK_e, twoL_e, twoM_e, valK_e, tru_e, truK_e, truM_e, blK_e, boF_e, boK_e, boM_e, boN_tt, boN_tf, boN_ft, boN_ff, notF_e, notK_e, iteF_e, iteK_t, iteK_f, negF_e, negK_e, negM_e, nilA_e, consA_e, consA1_e, consA2_e, consA3_e, kept_t, kept_f, keptK_e, settle_val, settle_sl, frzSlot_fz, frzSlot_ls, tupF_e, lstF_e, tupK_e, dsK_e, datas_nil, datas_cons, vws_nil, vws_cons, vwsK_e, biF_e, biK_e, biM_e, rngF_e, rngK_e, rngM_e, itsK_e, callF_e, callK_e, callN_none, callN_some, argsOf_none, argsOf_zero, argsOf_succ, argL_e, noneO_e, someO_e, someK_e, someM_e, sliF_e, sliK_e, sliL1_e, sliL2_e, sliM_e, nxS_e, bkS_e, ctS_e, seqS_e, seqK_nx, seqK_rt, seqK_bk, seqK_ct, ifS_e, ifK_t, ifK_f, exS_e, exK_e, retS_e, retK_e, retL_e, retN_e, give_val, give_sl, giveSlot_fz, giveSlot_ls, take_tv, take_ts, take_f, takeK_e, nxK_e, setS_e, setK_e, setL2_e, asgS_e, asgK_e, asgL_e, nameG_e, nilG_e, consG_e, stS_e, stK_e, stL1_e, stL2_e, stL3_e, stM_e, intOf_e, setAt_e, setAtN_e, intAt_e, intAtM_e, augS_e, augK_e, augL2_e, augKey_e, augO_e, augL3_e, augP_e, augN_e, augN1_e, augN2_e, augN3_e, nilL_e, consL_e, consL1_e, consL2_e, consL3_e, parS_e, parK_e, putL_nil, putL_cons, whlK_t, whlK_f, whlL_nx, whlL_ct, whlL_bk, whlL_rt, forK1_e, forK2_nx, forK2_ct, forK2_bk, forK2_rt, forS_e, forK_e, itF_e, itK_e, itL_e, itM_e, items_tup, items_lst, items_str, compF_e, compK2_e, yesT_e, truth_bl, eqS_int, neS_int, ltS_int, gtS_int, leS_int, geS_int, addS_int, subS_int, mulS_int, divS_int, modS_int, intS_int, idx_ls, idx_lst, idx_tup, idxM_e, idxD_e, atI0, atI1, atI2, atI3, slice_tup, slice_lst, ers_nil, ers_cons, ers_map, cat_lst, cat_tup, set_0, set_1, set_2, runK_rt, runK_nx, runL_e, lent_none, lent_some, wipe_n, wipe_c, back_n, back_c, of_some, mthF_e, mthL_e, mthK_e, mthM_e, mthN_e, napp_e, qSlot_e, fzOf_e, rgLF_e, rgLK_e, rgLM_e, putS, Option.map_some, List.set_cons_zero, List.set_cons_succ, List.map_cons, List.map_nil, List.length_cons, List.length_nil, List.length_set, List.mem_cons, List.not_mem_nil, or_false, Nat.reduceAdd, Nat.reduceLT, Nat.reduceEqDiff, List.nil_append, List.cons_append, List.replicate, Nat.reduceSub, not_false_eq_true, decide_true, Bool.and_self, Int.reduceLT, Int.reduceLE, hin, ha, hna, idx_dun0, idx_room hr, idx_par, ← hp, e, upL, List.append_assoc, List.singleton_append]
theorem lup_spec {rs : List Room} {k : Int} (g : Dun rs) {v : Nat} (hv : v < rs.length) : f__law_up [.fz (dunD rs k), .fz (natD v)] = .ok (.ls ((natsD (up rs v)).map OV.fz), .fz .non) := by
  have hl := g.len
  unfold f__law_up g__law_up
  rw [runF_e]
  case h => rfl
  obtain ⟨p', o3', e⟩ := lup_loop (k := k) g rs.length (rangeL 0 rs.length 1) (some v) [] none (fun u hu => by cases hu; exact hv) rangeL_len (by rw [List.length_nil]; omega)
  have hpd : parD (some v) = natD v := rfl
  have hnil : (natsD []).map OV.fz = [] := rfl
  have hu : upL rs rs.length (some v) = up rs v := upL_more g (v + 1) rs.length (some v) (fun u hu => by cases hu; omega) hv
  rw [hpd, hnil, List.nil_append, hu] at e
  have hr : range1S [.fz (.int rs.length)] = .ok (rangeL 0 rs.length 1) := by
    unfold range1S okR
    dsimp only
    rw [decide_eq_true (by omega)]
    simp
  simp only [okb, badb, gdt, sl0, slS, eSlot_e, eSlotK_some, eLit_e, opd_val, opd_sl, vw_val, vw_sl, er_fz, er_ls, two_e, twoK_e, twoL_e, twoM_e, valK_e, tru_e, truK_e, truM_e, blK_e, boF_e, boK_e, boM_e, boN_tt, boN_tf, boN_ft, boN_ff, notF_e, notK_e, iteF_e, iteK_t, iteK_f, negF_e, negK_e, negM_e, nilA_e, consA_e, consA1_e, consA2_e, consA3_e, kept_t, kept_f, keptK_e, settle_val, settle_sl, frzSlot_fz, frzSlot_ls, tupF_e, lstF_e, tupK_e, dsK_e, datas_nil, datas_cons, vws_nil, vws_cons, vwsK_e, biF_e, biK_e, biM_e, rngF_e, rngK_e, rngM_e, itsK_e, callF_e, callK_e, callN_none, callN_some, argsOf_none, argsOf_zero, argsOf_succ, argL_e, noneO_e, someO_e, someK_e, someM_e, sliF_e, sliK_e, sliL1_e, sliL2_e, sliM_e, nxS_e, bkS_e, ctS_e, seqS_e, seqK_nx, seqK_rt, seqK_bk, seqK_ct, ifS_e, ifK_t, ifK_f, exS_e, exK_e, retS_e, retK_e, retL_e, retN_e, give_val, give_sl, giveSlot_fz, giveSlot_ls, take_tv, take_ts, take_f, takeK_e, nxK_e, setS_e, setK_e, setL2_e, asgS_e, asgK_e, asgL_e, nameG_e, nilG_e, consG_e, stS_e, stK_e, stL1_e, stL2_e, stL3_e, stM_e, intOf_e, setAt_e, setAtN_e, intAt_e, intAtM_e, augS_e, augK_e, augL2_e, augKey_e, augO_e, augL3_e, augP_e, augN_e, augN1_e, augN2_e, augN3_e, nilL_e, consL_e, consL1_e, consL2_e, consL3_e, parS_e, parK_e, putL_nil, putL_cons, whlK_t, whlK_f, whlL_nx, whlL_ct, whlL_bk, whlL_rt, forK1_e, forK2_nx, forK2_ct, forK2_bk, forK2_rt, forS_e, forK_e, itF_e, itK_e, itL_e, itM_e, items_tup, items_lst, items_str, compF_e, compK2_e, yesT_e, truth_bl, eqS_int, neS_int, ltS_int, gtS_int, leS_int, geS_int, addS_int, subS_int, mulS_int, divS_int, modS_int, intS_int, idx_ls, idx_lst, idx_tup, idxM_e, idxD_e, atI0, atI1, atI2, atI3, slice_tup, slice_lst, ers_nil, ers_cons, ers_map, cat_lst, cat_tup, set_0, set_1, set_2, runK_rt, runK_nx, runL_e, lent_none, lent_some, wipe_n, wipe_c, back_n, back_c, of_some, mthF_e, mthL_e, mthK_e, mthM_e, mthN_e, napp_e, qSlot_e, fzOf_e, rgLF_e, rgLK_e, rgLM_e, putS, Option.map_some, List.set_cons_zero, List.set_cons_succ, List.map_cons, List.map_nil, List.length_cons, List.length_nil, List.length_set, List.mem_cons, List.not_mem_nil, or_false, Nat.reduceAdd, Nat.reduceLT, Nat.reduceEqDiff, List.nil_append, List.cons_append, List.replicate, Nat.reduceSub, not_false_eq_true, decide_true, Bool.and_self, Int.reduceLT, Int.reduceLE, size_ok 0 (by decide), List.map_nil, idx_dun0, len_tupD, List.length_map, hr, e, List.not_mem_nil, if_false]
end K15

namespace K15
open PySem PySem.Spec PyProof.Rows L2 Pf
/-! children -/
def kidsTo (rs : List Room) (n p : Nat) : List Nat := (List.range n).filter fun v => decide (parOf rs v = some p)
def kids (rs : List Room) (p : Nat) : List Nat := kidsTo rs rs.length p
theorem kidsTo_succ (rs : List Room) (n p : Nat) : kidsTo rs (n + 1) p = kidsTo rs n p ++ (if parOf rs n = some p then [n] else []) := by
  unfold kidsTo
  rw [List.range_succ, List.filter_append]
  congr 1
  by_cases h : parOf rs n = some p
  · simp [h]
  · simp [h]
def tabO (rs : List Room) (n : Nat) : List OV := (List.range rs.length).map fun p => .ls ((natsD (kidsTo rs n p)).map OV.fz)
theorem tabO_len (rs : List Room) (n : Nat) : (tabO rs n).length = rs.length := by unfold tabO; rw [List.length_map, List.length_range]
theorem tabO_get (rs : List Room) (n p : Nat) (h : p < rs.length) : (tabO rs n)[p]? = some (.ls ((natsD (kidsTo rs n p)).map OV.fz)) := by
  unfold tabO
  rw [List.getElem?_map, List.getElem?_range h]
  rfl
theorem tabO_set {rs : List Room} {n p : Nat} (h : p < rs.length) (hp : parOf rs n = some p) : (tabO rs n).set p (.ls ((natsD (kidsTo rs n p)).map OV.fz ++ [.fz (natD n)])) = tabO rs (n + 1) := by
  apply List.ext_getElem?
  intro i
  by_cases hi : i < rs.length
  · rw [tabO_get rs (n + 1) i hi, kidsTo_succ]
    by_cases hip : p = i
    · subst hip
      rw [List.getElem?_set_self (by rw [tabO_len]; exact h), if_pos hp]
      unfold natsD
      rw [List.map_append, List.map_append]
      rfl
    · rw [List.getElem?_set_ne hip, tabO_get rs n i hi, if_neg (by rw [hp]; intro z; cases z; exact hip rfl), List.append_nil]
  · rw [List.getElem?_eq_none (by rw [List.length_set, tabO_len]; omega), List.getElem?_eq_none (by rw [tabO_len]; omega)]
theorem tabO_same {rs : List Room} {n : Nat} (hp : parOf rs n = none) : tabO rs (n + 1) = tabO rs n := by
  unfold tabO
  apply List.map_congr_left
  intro p _
  rw [kidsTo_succ, hp, if_neg (by simp), List.append_nil]
theorem room_get {rs : List Room} {v : Nat} (h : v < rs.length) : rs[v]? = some rs[v] := List.getElem?_eq_getElem h
theorem kids_loop {rs : List Room} {dg : Option OV} (g : Dun rs) (m : Nat) : ∀ (i : Nat) (o2 o3 o4 o5 o6 : Option OV), i + m = rs.length →
    ∃ o2' o3' o4' o5', forL (tupG 2 (consG (nameG [] 2) (consG (tupG 3 (consG (nameG [] 3) (consG (nameG [] 4) (consG (nameG [] 5) nilG)))) nilG)))
      (seqS (ifS (two (eSlot 3) (eLit .non) isnotS) (seqS (exS (nappF 1 (qSlot 3) (qSlot 2))) nxS) nxS) nxS) (enumL i ((rs.drop i).map roomD)) [dg, some (.ls (tabO rs i)), o2, o3, o4, o5, o6] =
      .ok (.nx, [dg, some (.ls (tabO rs rs.length)), o2', o3', o4', o5', o6]) := by
  induction m with
  | zero =>
    intro i o2 o3 o4 o5 o6 hi
    have e : i = rs.length := by omega
    subst e
    rw [List.drop_length]
    exact ⟨_, _, _, _, rfl⟩
  | succ m ih =>
    intro i o2 o3 o4 o5 o6 hi
    have hlt : i < rs.length := by omega
    rw [List.drop_eq_getElem_cons hlt, List.map_cons, enumL, forL_cons]
    have hp : parOf rs i = rs[i].par := by unfold parOf; rw [room_get hlt]; rfl
    have hroom : roomD rs[i] = .tup [parD rs[i].par, rs[i].way, .int rs[i].many] := rfl
    cases hpar : rs[i].par with
    | none =>
      rw [hpar] at hp
      obtain ⟨o2', o3', o4', o5', e⟩ := ih (i + 1) (some (.fz (.int i))) (some (.fz .non)) (some (.fz rs[i].way)) (some (.fz (.int rs[i].many))) o6 (by omega)
      refine ⟨o2', o3', o4', o5', ?_⟩
      rw [tabO_same hp] at e
      have hpd : parD none = .non := rfl
      have hin : isnotS (.fz .non) (.fz .non) = .ok (.fz (.bl false)) := rfl
      simp only [okb, badb, gdt, sl0, slS, eSlot_e, eSlotK_some, eLit_e, opd_val, opd_sl, vw_val, vw_sl, er_fz, er_ls, two_e, twoK_e, twoL_e, twoM_e, valK_e, tru_e, truK_e, truM_e, blK_e, boF_e, boK_e, boM_e, boN_tt, boN_tf, boN_ft, boN_ff, notF_e, notK_e, iteF_e, iteK_t, iteK_f, negF_e, negK_e, negM_e, nilA_e, consA_e, consA1_e, consA2_e, consA3_e, kept_t, kept_f, keptK_e, settle_val, settle_sl, frzSlot_fz, frzSlot_ls, tupF_e, lstF_e, tupK_e, dsK_e, datas_nil, datas_cons, vws_nil, vws_cons, vwsK_e, biF_e, biK_e, biM_e, rngF_e, rngK_e, rngM_e, itsK_e, callF_e, callK_e, callN_none, callN_some, argsOf_none, argsOf_zero, argsOf_succ, argL_e, noneO_e, someO_e, someK_e, someM_e, sliF_e, sliK_e, sliL1_e, sliL2_e, sliM_e, nxS_e, bkS_e, ctS_e, seqS_e, seqK_nx, seqK_rt, seqK_bk, seqK_ct, ifS_e, ifK_t, ifK_f, exS_e, exK_e, retS_e, retK_e, retL_e, retN_e, give_val, give_sl, giveSlot_fz, giveSlot_ls, take_tv, take_ts, take_f, takeK_e, nxK_e, setS_e, setK_e, setL2_e, asgS_e, asgK_e, asgL_e, nameG_e, nilG_e, consG_e, stS_e, stK_e, stL1_e, stL2_e, stL3_e, stM_e, intOf_e, setAt_e, setAtN_e, intAt_e, intAtM_e, augS_e, augK_e, augL2_e, augKey_e, augO_e, augL3_e, augP_e, augN_e, augN1_e, augN2_e, augN3_e, nilL_e, consL_e, consL1_e, consL2_e, consL3_e, parS_e, parK_e, putL_nil, putL_cons, whlK_t, whlK_f, whlL_nx, whlL_ct, whlL_bk, whlL_rt, forK1_e, forK2_nx, forK2_ct, forK2_bk, forK2_rt, forS_e, forK_e, itF_e, itK_e, itL_e, itM_e, items_tup, items_lst, items_str, compF_e, compK2_e, yesT_e, truth_bl, eqS_int, neS_int, ltS_int, gtS_int, leS_int, geS_int, addS_int, subS_int, mulS_int, divS_int, modS_int, intS_int, idx_ls, idx_lst, idx_tup, idxM_e, idxD_e, atI0, atI1, atI2, atI3, slice_tup, slice_lst, ers_nil, ers_cons, ers_map, cat_lst, cat_tup, set_0, set_1, set_2, runK_rt, runK_nx, runL_e, lent_none, lent_some, wipe_n, wipe_c, back_n, back_c, of_some, mthF_e, mthL_e, mthK_e, mthM_e, mthN_e, napp_e, qSlot_e, fzOf_e, rgLF_e, rgLK_e, rgLM_e, putS, Option.map_some, List.set_cons_zero, List.set_cons_succ, List.map_cons, List.map_nil, List.length_cons, List.length_nil, List.length_set, List.mem_cons, List.not_mem_nil, or_false, Nat.reduceAdd, Nat.reduceLT, Nat.reduceEqDiff, List.nil_append, List.cons_append, List.replicate, Nat.reduceSub, not_false_eq_true, decide_true, Bool.and_self, Int.reduceLT, Int.reduceLE, hroom, hpar, hpd, tupG_e, hin, e]
    | some p =>
      rw [hpar] at hp
      have hpi := g.par_lt hp
      obtain ⟨o2', o3', o4', o5', e⟩ := ih (i + 1) (some (.fz (.int i))) (some (.fz (natD p))) (some (.fz rs[i].way)) (some (.fz (.int rs[i].many))) o6 (by omega)
      refine ⟨o2', o3', o4', o5', ?_⟩
      have hpd : parD (some p) = natD p := rfl
      have hin : isnotS (.fz (natD p)) (.fz .non) = .ok (.fz (.bl true)) := rfl
      have hk : (kidsTo rs i p).length ≤ i := by
        unfold kidsTo
        exact Nat.le_trans (List.length_filter_le _ _) (by rw [List.length_range]; exact Nat.le_refl _)
      have hl := g.len
      have hnp : ∀ τ : T, nappK 1 τ (some (.ls (tabO rs i))) (some (natD p)) (some (.int i)) = .ok (.val (.fz .non), τ.set 1 (some (.ls (tabO rs (i + 1))))) := fun τ => by
        have := nappK_e 1 τ (tabO rs i) p ((natsD (kidsTo rs i p)).map OV.fz) (.int i) (by rw [tabO_len]; omega) (tabO_get rs i p (by omega)) (by unfold natsD; rw [List.length_map, List.length_map]; omega)
        rw [show OV.fz (D.int i) = OV.fz (natD i) from rfl, tabO_set (by omega) hp] at this
        exact this
      simp only [okb, badb, gdt, sl0, slS, eSlot_e, eSlotK_some, eLit_e, opd_val, opd_sl, vw_val, vw_sl, er_fz, er_ls, two_e, twoK_e, twoL_e, twoM_e, valK_e, tru_e, truK_e, truM_e, blK_e, boF_e, boK_e, boM_e, boN_tt, boN_tf, boN_ft, boN_ff, notF_e, notK_e, iteF_e, iteK_t, iteK_f, negF_e, negK_e, negM_e, nilA_e, consA_e, consA1_e, consA2_e, consA3_e, kept_t, kept_f, keptK_e, settle_val, settle_sl, frzSlot_fz, frzSlot_ls, tupF_e, lstF_e, tupK_e, dsK_e, datas_nil, datas_cons, vws_nil, vws_cons, vwsK_e, biF_e, biK_e, biM_e, rngF_e, rngK_e, rngM_e, itsK_e, callF_e, callK_e, callN_none, callN_some, argsOf_none, argsOf_zero, argsOf_succ, argL_e, noneO_e, someO_e, someK_e, someM_e, sliF_e, sliK_e, sliL1_e, sliL2_e, sliM_e, nxS_e, bkS_e, ctS_e, seqS_e, seqK_nx, seqK_rt, seqK_bk, seqK_ct, ifS_e, ifK_t, ifK_f, exS_e, exK_e, retS_e, retK_e, retL_e, retN_e, give_val, give_sl, giveSlot_fz, giveSlot_ls, take_tv, take_ts, take_f, takeK_e, nxK_e, setS_e, setK_e, setL2_e, asgS_e, asgK_e, asgL_e, nameG_e, nilG_e, consG_e, stS_e, stK_e, stL1_e, stL2_e, stL3_e, stM_e, intOf_e, setAt_e, setAtN_e, intAt_e, intAtM_e, augS_e, augK_e, augL2_e, augKey_e, augO_e, augL3_e, augP_e, augN_e, augN1_e, augN2_e, augN3_e, nilL_e, consL_e, consL1_e, consL2_e, consL3_e, parS_e, parK_e, putL_nil, putL_cons, whlK_t, whlK_f, whlL_nx, whlL_ct, whlL_bk, whlL_rt, forK1_e, forK2_nx, forK2_ct, forK2_bk, forK2_rt, forS_e, forK_e, itF_e, itK_e, itL_e, itM_e, items_tup, items_lst, items_str, compF_e, compK2_e, yesT_e, truth_bl, eqS_int, neS_int, ltS_int, gtS_int, leS_int, geS_int, addS_int, subS_int, mulS_int, divS_int, modS_int, intS_int, idx_ls, idx_lst, idx_tup, idxM_e, idxD_e, atI0, atI1, atI2, atI3, slice_tup, slice_lst, ers_nil, ers_cons, ers_map, cat_lst, cat_tup, set_0, set_1, set_2, runK_rt, runK_nx, runL_e, lent_none, lent_some, wipe_n, wipe_c, back_n, back_c, of_some, mthF_e, mthL_e, mthK_e, mthM_e, mthN_e, napp_e, qSlot_e, fzOf_e, rgLF_e, rgLK_e, rgLM_e, putS, Option.map_some, List.set_cons_zero, List.set_cons_succ, List.map_cons, List.map_nil, List.length_cons, List.length_nil, List.length_set, List.mem_cons, List.not_mem_nil, or_false, Nat.reduceAdd, Nat.reduceLT, Nat.reduceEqDiff, List.nil_append, List.cons_append, List.replicate, Nat.reduceSub, not_false_eq_true, decide_true, Bool.and_self, Int.reduceLT, Int.reduceLE, hroom, hpar, hpd, tupG_e, hin, hnp, e]
theorem children_spec {rs : List Room} {k : Int} (g : Dun rs) : f_children_of [.fz (dunD rs k)] = .ok (.ls (tabO rs rs.length), .fz .non) := by
  have hl := g.len
  unfold f_children_of g_children_of
  rw [runF_e]
  case h => rfl
  have turn : ∀ (d : D) (τ : T), True → (∃ o, τ = [some (.fz (dunD rs k)), none, none, none, none, none, o]) → ∃ τ1 b τ2, nameG [] 6 d (wipeT τ [6]) = .ok τ1 ∧ yesT τ1 = .ok (b, τ2) ∧ (b = false → (fun _ : D => some (OV.ls [])) d = none ∧ (∃ o, τ2 = [some (.fz (dunD rs k)), none, none, none, none, none, o])) ∧
      (b = true → ∃ p τ3 o τ4, lstF nilA τ2 = .ok (p, τ3) ∧ Pf.take [] true p τ3 = .ok (o, τ4) ∧ (fun _ : D => some (OV.ls [])) d = some o ∧ (∃ o, τ4 = [some (.fz (dunD rs k)), none, none, none, none, none, o])) := by
    rintro d τ _ ⟨o, rfl⟩
    refine ⟨[some (.fz (dunD rs k)), none, none, none, none, none, some (.fz d)], true, _, rfl, rfl, fun z => Bool.noConfusion z, fun _ => ⟨.val (.ls []), [some (.fz (dunD rs k)), none, none, none, none, none, some (.fz d)], _, _, ?_, rfl, rfl, ⟨_, rfl⟩⟩⟩
    simp only [okb, badb, gdt, sl0, slS, eSlot_e, eSlotK_some, eLit_e, opd_val, opd_sl, vw_val, vw_sl, er_fz, er_ls, two_e, twoK_e, twoL_e, twoM_e, valK_e, tru_e, truK_e, truM_e, blK_e, boF_e, boK_e, boM_e, boN_tt, boN_tf, boN_ft, boN_ff, notF_e, notK_e, iteF_e, iteK_t, iteK_f, negF_e, negK_e, negM_e, nilA_e, consA_e, consA1_e, consA2_e, consA3_e, kept_t, kept_f, keptK_e, settle_val, settle_sl, frzSlot_fz, frzSlot_ls, tupF_e, lstF_e, tupK_e, dsK_e, datas_nil, datas_cons, vws_nil, vws_cons, vwsK_e, biF_e, biK_e, biM_e, rngF_e, rngK_e, rngM_e, itsK_e, callF_e, callK_e, callN_none, callN_some, argsOf_none, argsOf_zero, argsOf_succ, argL_e, noneO_e, someO_e, someK_e, someM_e, sliF_e, sliK_e, sliL1_e, sliL2_e, sliM_e, nxS_e, bkS_e, ctS_e, seqS_e, seqK_nx, seqK_rt, seqK_bk, seqK_ct, ifS_e, ifK_t, ifK_f, exS_e, exK_e, retS_e, retK_e, retL_e, retN_e, give_val, give_sl, giveSlot_fz, giveSlot_ls, take_tv, take_ts, take_f, takeK_e, nxK_e, setS_e, setK_e, setL2_e, asgS_e, asgK_e, asgL_e, nameG_e, nilG_e, consG_e, stS_e, stK_e, stL1_e, stL2_e, stL3_e, stM_e, intOf_e, setAt_e, setAtN_e, intAt_e, intAtM_e, augS_e, augK_e, augL2_e, augKey_e, augO_e, augL3_e, augP_e, augN_e, augN1_e, augN2_e, augN3_e, nilL_e, consL_e, consL1_e, consL2_e, consL3_e, parS_e, parK_e, putL_nil, putL_cons, whlK_t, whlK_f, whlL_nx, whlL_ct, whlL_bk, whlL_rt, forK1_e, forK2_nx, forK2_ct, forK2_bk, forK2_rt, forS_e, forK_e, itF_e, itK_e, itL_e, itM_e, items_tup, items_lst, items_str, compF_e, compK2_e, yesT_e, truth_bl, eqS_int, neS_int, ltS_int, gtS_int, leS_int, geS_int, addS_int, subS_int, mulS_int, divS_int, modS_int, intS_int, idx_ls, idx_lst, idx_tup, idxM_e, idxD_e, atI0, atI1, atI2, atI3, slice_tup, slice_lst, ers_nil, ers_cons, ers_map, cat_lst, cat_tup, set_0, set_1, set_2, runK_rt, runK_nx, runL_e, lent_none, lent_some, wipe_n, wipe_c, back_n, back_c, of_some, mthF_e, mthL_e, mthK_e, mthM_e, mthN_e, napp_e, qSlot_e, fzOf_e, rgLF_e, rgLK_e, rgLM_e, putS, Option.map_some, List.set_cons_zero, List.set_cons_succ, List.map_cons, List.map_nil, List.length_cons, List.length_nil, List.length_set, List.mem_cons, List.not_mem_nil, or_false, Nat.reduceAdd, Nat.reduceLT, Nat.reduceEqDiff, List.nil_append, List.cons_append, List.replicate, Nat.reduceSub, not_false_eq_true, decide_true, Bool.and_self, Int.reduceLT, Int.reduceLE, size_ok 0 (by decide)]
  obtain ⟨τ', e1, o, rfl⟩ := comp_map (io := []) (vs := [6]) (own := true) (g := nameG [] 6) (c := yesT) (f := lstF nilA) (fun τ => ∃ o, τ = [some (.fz (dunD rs k)), none, none, none, none, none, o]) (fun _ : D => some (OV.ls [])) (fun _ => True) turn (rs.map roomD) [] [some (.fz (dunD rs k)), none, none, none, none, none, none]
    (fun _ _ => trivial) ⟨_, rfl⟩ (by rw [List.length_map, List.length_nil]; have : (1000 : Nat) ≤ sizeLine := by decide
                                      omega)
  have e2 : (rs.map roomD).filterMap (fun _ : D => some (OV.ls [])) = tabO rs 0 := by
    have e0 : (rs.map roomD).filterMap (fun _ : D => some (OV.ls [])) = rs.map fun _ => OV.ls [] := by
      rw [List.filterMap_map]
      show List.filterMap (fun _ : Room => some (OV.ls [])) rs = _
      rw [List.filterMap_eq_map']
    rw [e0]
    unfold tabO kidsTo
    apply List.ext_getElem?
    intro i
    by_cases hi : i < rs.length
    · rw [List.getElem?_map, List.getElem?_map, List.getElem?_range hi, room_get hi]
      rfl
    · rw [List.getElem?_eq_none (by rw [List.length_map]; omega), List.getElem?_eq_none (by rw [List.length_map, List.length_range]; omega)]
  rw [e2, List.nil_append] at e1
  obtain ⟨o2', o3', o4', o5', e3⟩ := kids_loop (dg := some (.fz (dunD rs k))) g rs.length 0 none none none none none (by omega)
  rw [List.drop_zero] at e3
  have hen : datL (enumL 0) [.fz (.tup (rs.map roomD))] = .ok (enumL 0 (rs.map roomD)) := rfl
  have hz : ([6].all (noOwn [some (.fz (dunD rs k)), none, none, none, none, none, none]) && [6].all (fun i => decide (i ∉ ([] : List Nat)))) = true := rfl
  simp only [okb, badb, gdt, sl0, slS, eSlot_e, eSlotK_some, eLit_e, opd_val, opd_sl, vw_val, vw_sl, er_fz, er_ls, two_e, twoK_e, twoL_e, twoM_e, valK_e, tru_e, truK_e, truM_e, blK_e, boF_e, boK_e, boM_e, boN_tt, boN_tf, boN_ft, boN_ff, notF_e, notK_e, iteF_e, iteK_t, iteK_f, negF_e, negK_e, negM_e, nilA_e, consA_e, consA1_e, consA2_e, consA3_e, kept_t, kept_f, keptK_e, settle_val, settle_sl, frzSlot_fz, frzSlot_ls, tupF_e, lstF_e, tupK_e, dsK_e, datas_nil, datas_cons, vws_nil, vws_cons, vwsK_e, biF_e, biK_e, biM_e, rngF_e, rngK_e, rngM_e, itsK_e, callF_e, callK_e, callN_none, callN_some, argsOf_none, argsOf_zero, argsOf_succ, argL_e, noneO_e, someO_e, someK_e, someM_e, sliF_e, sliK_e, sliL1_e, sliL2_e, sliM_e, nxS_e, bkS_e, ctS_e, seqS_e, seqK_nx, seqK_rt, seqK_bk, seqK_ct, ifS_e, ifK_t, ifK_f, exS_e, exK_e, retS_e, retK_e, retL_e, retN_e, give_val, give_sl, giveSlot_fz, giveSlot_ls, take_tv, take_ts, take_f, takeK_e, nxK_e, setS_e, setK_e, setL2_e, asgS_e, asgK_e, asgL_e, nameG_e, nilG_e, consG_e, stS_e, stK_e, stL1_e, stL2_e, stL3_e, stM_e, intOf_e, setAt_e, setAtN_e, intAt_e, intAtM_e, augS_e, augK_e, augL2_e, augKey_e, augO_e, augL3_e, augP_e, augN_e, augN1_e, augN2_e, augN3_e, nilL_e, consL_e, consL1_e, consL2_e, consL3_e, parS_e, parK_e, putL_nil, putL_cons, whlK_t, whlK_f, whlL_nx, whlL_ct, whlL_bk, whlL_rt, forK1_e, forK2_nx, forK2_ct, forK2_bk, forK2_rt, forS_e, forK_e, itF_e, itK_e, itL_e, itM_e, items_tup, items_lst, items_str, compF_e, compK2_e, yesT_e, truth_bl, eqS_int, neS_int, ltS_int, gtS_int, leS_int, geS_int, addS_int, subS_int, mulS_int, divS_int, modS_int, intS_int, idx_ls, idx_lst, idx_tup, idxM_e, idxD_e, atI0, atI1, atI2, atI3, slice_tup, slice_lst, ers_nil, ers_cons, ers_map, cat_lst, cat_tup, set_0, set_1, set_2, runK_rt, runK_nx, runL_e, lent_none, lent_some, wipe_n, wipe_c, back_n, back_c, of_some, mthF_e, mthL_e, mthK_e, mthM_e, mthN_e, napp_e, qSlot_e, fzOf_e, rgLF_e, rgLK_e, rgLM_e, putS, Option.map_some, List.set_cons_zero, List.set_cons_succ, List.map_cons, List.map_nil, List.length_cons, List.length_nil, List.length_set, List.mem_cons, List.not_mem_nil, or_false, Nat.reduceAdd, Nat.reduceLT, Nat.reduceEqDiff, List.nil_append, List.cons_append, List.replicate, Nat.reduceSub, not_false_eq_true, decide_true, Bool.and_self, Int.reduceLT, Int.reduceLE, idx_dun0, compK_e _ _ _ _ _ _ _ _ hz, e1, hen, e3, if_false]
/-! the branch, room by room -/
def subF (rs : List Room) : Nat → Nat → List Nat
  | 0, _ => []
  | n + 1, v => v :: (kids rs v).flatMap (subF rs n)
theorem kids_mem {rs : List Room} {v u : Nat} : u ∈ kids rs v ↔ parOf rs u = some v := by
  unfold kids kidsTo
  rw [List.mem_filter, List.mem_range, decide_eq_true_eq]
  exact ⟨fun h => h.2, fun h => ⟨par_in h, h⟩⟩
theorem kids_gt {rs : List Room} (g : Dun rs) {v u : Nat} (h : u ∈ kids rs v) : v < u := g.par_lt (kids_mem.mp h)
theorem kids_lt {rs : List Room} {v u : Nat} (h : u ∈ kids rs v) : u < rs.length := par_in (kids_mem.mp h)
theorem subF_more {rs : List Room} (g : Dun rs) : ∀ (n m v : Nat), rs.length ≤ v + n → n ≤ m → v < rs.length → subF rs m v = subF rs n v
  | 0, m, v, h, _, hv => by omega
  | n + 1, 0, v, _, h, _ => absurd h (by omega)
  | n + 1, m + 1, v, h, hm, hv => by
    rw [subF, subF]
    congr 1
    have e : ∀ u ∈ kids rs v, subF rs m u = subF rs n u := fun u hu => subF_more g n m u (by have := kids_gt g hu; omega) (by omega) (kids_lt hu)
    rw [List.flatMap_def, List.flatMap_def, List.map_congr_left e]
def sub (rs : List Room) (v : Nat) : List Nat := subF rs rs.length v
theorem sub_eq {rs : List Room} (g : Dun rs) {v : Nat} (hv : v < rs.length) : sub rs v = v :: (kids rs v).flatMap (sub rs) := by
  unfold sub
  obtain ⟨n, hn⟩ : ∃ n, rs.length = n + 1 := ⟨rs.length - 1, by omega⟩
  have e : ∀ u ∈ kids rs v, subF rs rs.length u = subF rs n u := fun u hu => subF_more g n rs.length u (by have := kids_gt g hu; omega) (by omega) (kids_lt hu)
  have h1 : subF rs rs.length v = v :: (kids rs v).flatMap (subF rs n) := by
    rw [hn, subF]
  rw [h1, List.flatMap_def, List.flatMap_def, List.map_congr_left e]
theorem up_mem {rs : List Room} (g : Dun rs) : ∀ (u v : Nat), v ∈ up rs u ↔ v = u ∨ ∃ p, parOf rs u = some p ∧ v ∈ up rs p := fun u v => by
  rw [up_eq g]
  cases h : parOf rs u with
  | none => simp
  | some p => simp
theorem sub_mem {rs : List Room} (g : Dun rs) (n : Nat) : ∀ (v u : Nat), rs.length ≤ v + n → v < rs.length → (u ∈ subF rs n v ↔ (u < rs.length ∧ v ∈ up rs u)) := by
  induction n with
  | zero => intro v u h hv; omega
  | succ n ih =>
    intro v u h hv
    rw [subF, List.mem_cons, List.mem_flatMap]
    constructor
    · rintro (rfl | ⟨w, hw, hu⟩)
      · exact ⟨hv, (up_mem g _ _).mpr (.inl rfl)⟩
      · have h1 := (ih w u (by have := kids_gt g hw; omega) (kids_lt hw)).mp hu
        refine ⟨h1.1, ?_⟩
        -- w is above u, v above w
        have lift : ∀ (k u : Nat), u ≤ k → w ∈ up rs u → v ∈ up rs u := by
          intro k
          induction k with
          | zero =>
            intro u hu hw2
            rcases (up_mem g u w).mp hw2 with e | ⟨p, hp, _⟩
            · rw [← e]
              exact (up_mem g w v).mpr (.inr ⟨v, kids_mem.mp hw, (up_mem g v v).mpr (.inl rfl)⟩)
            · have := g.par_lt hp; omega
          | succ k ihk =>
            intro u hu hw2
            rcases (up_mem g u w).mp hw2 with e | ⟨p, hp, hq⟩
            · rw [← e]
              exact (up_mem g w v).mpr (.inr ⟨v, kids_mem.mp hw, (up_mem g v v).mpr (.inl rfl)⟩)
            · exact (up_mem g u v).mpr (.inr ⟨p, hp, ihk p (by have := g.par_lt hp; omega) hq⟩)
        exact lift u u (Nat.le_refl _) h1.2
    · rintro ⟨hu, hv2⟩
      -- go up from u till just below v
      have find : ∀ (k u : Nat), u ≤ k → u < rs.length → v ∈ up rs u → u = v ∨ ∃ w, w ∈ kids rs v ∧ w ∈ up rs u := by
        intro k
        induction k with
        | zero =>
          intro u hk hu hv2
          rcases (up_mem g u v).mp hv2 with e | ⟨p, hp, _⟩
          · exact .inl e.symm
          · have := g.par_lt hp; omega
        | succ k ihk =>
          intro u hk hu hv2
          rcases (up_mem g u v).mp hv2 with e | ⟨p, hp, hq⟩
          · exact .inl e.symm
          · have hlt := g.par_lt hp
            rcases ihk p (by omega) (by omega) hq with e | ⟨w, h1, h2⟩
            · subst e
              exact .inr ⟨u, kids_mem.mpr hp, (up_mem g u u).mpr (.inl rfl)⟩
            · exact .inr ⟨w, h1, (up_mem g u w).mpr (.inr ⟨p, hp, h2⟩)⟩
      rcases find u u (Nat.le_refl _) hu hv2 with e | ⟨w, h1, h2⟩
      · exact .inl e
      · exact .inr ⟨w, h1, (ih w u (by have := kids_gt g h1; omega) (kids_lt h1)).mpr ⟨hu, h2⟩⟩
end K15

namespace K15
open PySem PySem.Spec PyProof.Rows L2 Pf
theorem up_le {rs : List Room} (g : Dun rs) : ∀ (k u w : Nat), u ≤ k → w ∈ up rs u → w ≤ u
  | 0, u, w, hk, h => by
    rcases (up_mem g u w).mp h with e | ⟨p, hp, _⟩
    · omega
    · have := g.par_lt hp; omega
  | k + 1, u, w, hk, h => by
    rcases (up_mem g u w).mp h with e | ⟨p, hp, hq⟩
    · omega
    · have := g.par_lt hp
      have := up_le g k p w (by omega) hq
      omega
theorem up_chain {rs : List Room} (g : Dun rs) {w1 w2 : Nat} (hlt : w1 < w2) : ∀ (k u : Nat), u ≤ k → w1 ∈ up rs u → w2 ∈ up rs u → ∃ p, parOf rs w2 = some p ∧ w1 ∈ up rs p
  | 0, u, hk, h1, h2 => by
    have := up_le g u u w2 (Nat.le_refl _) h2
    omega
  | k + 1, u, hk, h1, h2 => by
    rcases (up_mem g u w2).mp h2 with e | ⟨p, hp, hq⟩
    · subst e
      rcases (up_mem g w2 w1).mp h1 with e | ⟨p, hp, hq⟩
      · omega
      · exact ⟨p, hp, hq⟩
    · rcases (up_mem g u w1).mp h1 with e | ⟨p2, hp2, hq2⟩
      · subst e
        have := up_le g w1 w1 w2 (Nat.le_refl _) h2
        omega
      · rw [hp] at hp2
        cases hp2
        exact up_chain g hlt k p (by have := g.par_lt hp; omega) hq2 hq
theorem kids_pw (rs : List Room) (v : Nat) : (kids rs v).Pairwise (· < ·) := by
  unfold kids kidsTo
  exact List.Pairwise.filter _ List.pairwise_lt_range
theorem sub_nodup {rs : List Room} (g : Dun rs) (n : Nat) : ∀ (v : Nat), rs.length ≤ v + n → v < rs.length → (subF rs n v).Pairwise (· ≠ ·) := by
  induction n with
  | zero => intro v h hv; omega
  | succ n ih =>
    intro v h hv
    rw [subF, List.pairwise_cons]
    have inner : ∀ w ∈ kids rs v, ∀ u, u ∈ subF rs n w ↔ (u < rs.length ∧ w ∈ up rs u) := fun w hw u => sub_mem g n w u (by have := kids_gt g hw; omega) (kids_lt hw)
    refine ⟨fun u hu => ?_, List.pairwise_flatMap.mpr ⟨fun w hw => ih w (by have := kids_gt g hw; omega) (kids_lt hw), ?_⟩⟩
    · obtain ⟨w, hw, hu⟩ := List.mem_flatMap.mp hu
      have h1 := (inner w hw u).mp hu
      have h2 := up_le g u u w (Nat.le_refl _) h1.2
      have h3 := kids_gt g hw
      omega
    · refine List.Pairwise.imp_of_mem ?_ (kids_pw rs v)
      intro w1 w2 m1 m2 hlt x hx y hy e
      subst e
      have h1 := (inner w1 m1 x).mp hx
      have h2 := (inner w2 m2 x).mp hy
      obtain ⟨p, hp, hq⟩ := up_chain g hlt x x (Nat.le_refl _) h1.2 h2.2
      rw [kids_mem.mp m2] at hp
      cases hp
      have h3 := up_le g v v w1 (Nat.le_refl _) hq
      have h4 := kids_gt g m1
      omega
def below (rs : List Room) (v : Nat) : List Nat := (List.range rs.length).filter fun u => decide (v ∈ up rs u)
theorem sub_perm {rs : List Room} (g : Dun rs) {v : Nat} (hv : v < rs.length) : (sub rs v).Perm (below rs v) := by
  refine (List.perm_ext_iff_of_nodup ?_ ?_).mpr fun u => ?_
  · exact sub_nodup g rs.length v (by omega) hv
  · unfold below
    exact (List.Pairwise.filter _ List.pairwise_lt_range).imp fun h => Nat.ne_of_lt h
  · unfold sub below
    rw [sub_mem g rs.length v u (by omega) hv, List.mem_filter, List.mem_range, decide_eq_true_eq]
theorem sub_len {rs : List Room} (g : Dun rs) {v : Nat} (hv : v < rs.length) : (sub rs v).length ≤ rs.length := by
  rw [(sub_perm g hv).length_eq]
  unfold below
  exact Nat.le_trans (List.length_filter_le _ _) (by rw [List.length_range]; exact Nat.le_refl _)
theorem srt_eq {l m : List Nat} (h : l.Perm m) (hm : m.Pairwise (· < ·)) : srt l = natsD m := by
  unfold srt
  rw [sort_eq (l := intsOf' l) (m := intsOf' m) (h.map _) ?_, natsD_eq]
  unfold intsOf'
  rw [List.pairwise_map]
  exact hm.imp fun h => by omega
/-! the program's branch -/
def tabD (rs : List Room) : List D := (List.range rs.length).map fun p => .lst (natsD (kids rs p))
theorem ers_tab (rs : List Room) : OV.ers (tabO rs rs.length) = tabD rs := by
  rw [OV.ers_map]
  unfold tabO tabD
  rw [List.map_map]
  apply List.map_congr_left
  intro p _
  show D.lst (OV.ers ((natsD (kidsTo rs rs.length p)).map OV.fz)) = _
  rw [ers_map]
  rfl
theorem idx_tab {rs : List Room} {v : Nat} (hv : v < rs.length) : idxS (.fz (.lst (tabD rs))) (.fz (natD v)) = .ok (.fz (.lst (natsD (kids rs v)))) := by
  unfold natD tabD
  rw [idx_lst, atI_lt (by omega) (by rw [List.length_map, List.length_range]; omega), Int.toNat_natCast, List.getElem?_map, List.getElem?_range hv]
  rfl
theorem idx_nats {l : List Nat} {i v : Nat} {a : Int} (ha : a = i) (h : l[i]? = some v) : idxS (.ls ((natsD l).map OV.fz)) (.fz (.int a)) = .ok (.fz (natD v)) := by
  have hi : i < l.length := (List.getElem?_eq_some_iff.mp h).1
  rw [idx_ls, atI_lt (by omega) (by unfold natsD; rw [List.length_map, List.length_map]; omega), ha, Int.toNat_natCast]
  unfold natsD
  rw [List.getElem?_map, List.getElem?_map, h]
  rfl
theorem len_nats (l : List Nat) : lenS [.ls ((natsD l).map OV.fz)] = .ok (.fz (.int l.length)) := by
  show Res.ok (OV.fz (.int (((natsD l).map OV.fz).length : Nat))) = _
  unfold natsD
  rw [List.length_map, List.length_map]
theorem flat_pos {rs : List Room} (g : Dun rs) : ∀ (q : List Nat), (∀ u ∈ q, u < rs.length) → q.length ≤ (q.flatMap (sub rs)).length
  | [], _ => Nat.le_refl _
  | u :: q, h => by
    rw [List.flatMap_cons, List.length_append, List.length_cons, sub_eq g (h u List.mem_cons_self), List.length_cons]
    have := flat_pos g q fun x hx => h x (List.mem_cons_of_mem _ hx)
    omega
theorem bfs_loop {rs : List Room} {dg vv : Option OV} (g : Dun rs) (m : Nat) : ∀ (n : Nat) (done q : List Nat) (a : Int), (q.flatMap (sub rs)).length = m → (∀ u ∈ q, u < rs.length) → m < n → done.length + m ≤ 1000 → a = done.length →
    ∃ res a', whl (two (eSlot 4) (biF (consA [] true (eSlot 3) nilA) lenS) ltS) (seqS (exS (mthF 3 (consA [] false (two (eSlot 2) (two (eSlot 3) (eSlot 4) idxS) idxS) nilA) extendM)) (seqS (augN [] 4 (eLit (.int 1)) (fun i j => i + j)) nxS)) n
      [dg, vv, some (.fz (.lst (tabD rs))), some (.ls ((natsD (done ++ q)).map OV.fz)), some (.fz (.int a))] = .ok (.nx, [dg, vv, some (.fz (.lst (tabD rs))), some (.ls ((natsD res).map OV.fz)), some (.fz (.int a'))]) ∧ res.Perm (done ++ q.flatMap (sub rs)) := by
  induction m with
  | zero =>
    intro n done q a hm hq hn hz ha
    obtain ⟨n, rfl⟩ : ∃ j, n = j + 1 := ⟨n - 1, by omega⟩
    have hq0 : q = [] := by
      have := flat_pos g q hq
      exact List.length_eq_zero_iff.mp (by omega)
    subst hq0
    have hd : decide (a < ((done ++ []).length : Nat)) = false := decide_eq_false (by rw [List.append_nil]; omega)
    refine ⟨done ++ [], a, ?_, by simp⟩
    rw [whl_e]
    simp only [okb, badb, gdt, sl0, slS, eSlot_e, eSlotK_some, eLit_e, opd_val, opd_sl, vw_val, vw_sl, er_fz, er_ls, two_e, twoK_e, twoL_e, twoM_e, valK_e, tru_e, truK_e, truM_e, blK_e, boF_e, boK_e, boM_e, boN_tt, boN_tf, boN_ft, boN_ff, notF_e, notK_e, iteF_e, iteK_t, iteK_f, negF_e, negK_e, negM_e, nilA_e, consA_e, consA1_e, consA2_e, consA3_e, kept_t, kept_f, keptK_e, settle_val, settle_sl, frzSlot_fz, frzSlot_ls, tupF_e, lstF_e, tupK_e, dsK_e, datas_nil, datas_cons, vws_nil, vws_cons, vwsK_e, biF_e, biK_e, biM_e, rngF_e, rngK_e, rngM_e, itsK_e, callF_e, callK_e, callN_none, callN_some, argsOf_none, argsOf_zero, argsOf_succ, argL_e, noneO_e, someO_e, someK_e, someM_e, sliF_e, sliK_e, sliL1_e, sliL2_e, sliM_e, nxS_e, bkS_e, ctS_e, seqS_e, seqK_nx, seqK_rt, seqK_bk, seqK_ct, ifS_e, ifK_t, ifK_f, exS_e, exK_e, retS_e, retK_e, retL_e, retN_e, give_val, give_sl, giveSlot_fz, giveSlot_ls, take_tv, take_ts, take_f, takeK_e, nxK_e, setS_e, setK_e, setL2_e, asgS_e, asgK_e, asgL_e, nameG_e, nilG_e, consG_e, stS_e, stK_e, stL1_e, stL2_e, stL3_e, stM_e, intOf_e, setAt_e, setAtN_e, intAt_e, intAtM_e, augS_e, augK_e, augL2_e, augKey_e, augO_e, augL3_e, augP_e, augN_e, augN1_e, augN2_e, augN3_e, nilL_e, consL_e, consL1_e, consL2_e, consL3_e, parS_e, parK_e, putL_nil, putL_cons, whlK_t, whlK_f, whlL_nx, whlL_ct, whlL_bk, whlL_rt, forK1_e, forK2_nx, forK2_ct, forK2_bk, forK2_rt, forS_e, forK_e, itF_e, itK_e, itL_e, itM_e, items_tup, items_lst, items_str, compF_e, compK2_e, yesT_e, truth_bl, eqS_int, neS_int, ltS_int, gtS_int, leS_int, geS_int, addS_int, subS_int, mulS_int, divS_int, modS_int, intS_int, idx_ls, idx_lst, idx_tup, idxM_e, idxD_e, atI0, atI1, atI2, atI3, slice_tup, slice_lst, ers_nil, ers_cons, ers_map, cat_lst, cat_tup, set_0, set_1, set_2, runK_rt, runK_nx, runL_e, lent_none, lent_some, wipe_n, wipe_c, back_n, back_c, of_some, mthF_e, mthL_e, mthK_e, mthM_e, mthN_e, napp_e, qSlot_e, fzOf_e, rgLF_e, rgLK_e, rgLM_e, putS, Option.map_some, List.set_cons_zero, List.set_cons_succ, List.map_cons, List.map_nil, List.length_cons, List.length_nil, List.length_set, List.mem_cons, List.not_mem_nil, or_false, Nat.reduceAdd, Nat.reduceLT, Nat.reduceEqDiff, List.nil_append, List.cons_append, List.replicate, Nat.reduceSub, not_false_eq_true, decide_true, Bool.and_self, Int.reduceLT, Int.reduceLE, len_nats, hd]
  | succ m ih =>
    intro n done q a hm hq hn hz ha
    obtain ⟨n, rfl⟩ : ∃ j, n = j + 1 := ⟨n - 1, by omega⟩
    cases q with
    | nil => simp at hm
    | cons v q =>
      have hv := hq v List.mem_cons_self
      have hd : decide (a < ((done ++ v :: q).length : Nat)) = true := decide_eq_true (by rw [List.length_append, List.length_cons]; omega)
      have hat : (done ++ v :: q)[done.length]? = some v := by rw [List.getElem?_append_right (Nat.le_refl _), Nat.sub_self]; rfl
      have hm' : ((q ++ kids rs v).flatMap (sub rs)).length = m := by
        rw [List.flatMap_cons, List.length_append, sub_eq g hv, List.length_cons] at hm
        rw [List.flatMap_append, List.length_append]
        omega
      have hq' : ∀ u ∈ q ++ kids rs v, u < rs.length := fun u hu => by
        rcases List.mem_append.mp hu with h | h
        · exact hq u (List.mem_cons_of_mem _ h)
        · exact kids_lt h
      have hqk := flat_pos g _ hq'
      obtain ⟨res, a', e, hp⟩ := ih n (done ++ [v]) (q ++ kids rs v) (a + 1) hm' hq' (by omega) (by rw [List.length_append, List.length_singleton]; omega) (by rw [List.length_append, List.length_singleton, ha]; simp)
      refine ⟨res, a', ?_, hp.trans ?_⟩
      · have hx := extend_ok (natsD (done ++ v :: q)) (natsD (kids rs v)) (by
          unfold natsD
          rw [List.length_map, List.length_map, List.length_append, List.length_cons]
          rw [List.length_append] at hqk
          omega)
        have hl : natsD (done ++ v :: q) ++ natsD (kids rs v) = natsD ((done ++ [v]) ++ (q ++ kids rs v)) := by
          unfold natsD
          rw [← List.map_append]
          congr 1
          simp
        rw [hl] at hx
        rw [whl_e]
        simp only [okb, badb, gdt, sl0, slS, eSlot_e, eSlotK_some, eLit_e, opd_val, opd_sl, vw_val, vw_sl, er_fz, er_ls, two_e, twoK_e, twoL_e, twoM_e, valK_e, tru_e, truK_e, truM_e, blK_e, boF_e, boK_e, boM_e, boN_tt, boN_tf, boN_ft, boN_ff, notF_e, notK_e, iteF_e, iteK_t, iteK_f, negF_e, negK_e, negM_e, nilA_e, consA_e, consA1_e, consA2_e, consA3_e, kept_t, kept_f, keptK_e, settle_val, settle_sl, frzSlot_fz, frzSlot_ls, tupF_e, lstF_e, tupK_e, dsK_e, datas_nil, datas_cons, vws_nil, vws_cons, vwsK_e, biF_e, biK_e, biM_e, rngF_e, rngK_e, rngM_e, itsK_e, callF_e, callK_e, callN_none, callN_some, argsOf_none, argsOf_zero, argsOf_succ, argL_e, noneO_e, someO_e, someK_e, someM_e, sliF_e, sliK_e, sliL1_e, sliL2_e, sliM_e, nxS_e, bkS_e, ctS_e, seqS_e, seqK_nx, seqK_rt, seqK_bk, seqK_ct, ifS_e, ifK_t, ifK_f, exS_e, exK_e, retS_e, retK_e, retL_e, retN_e, give_val, give_sl, giveSlot_fz, giveSlot_ls, take_tv, take_ts, take_f, takeK_e, nxK_e, setS_e, setK_e, setL2_e, asgS_e, asgK_e, asgL_e, nameG_e, nilG_e, consG_e, stS_e, stK_e, stL1_e, stL2_e, stL3_e, stM_e, intOf_e, setAt_e, setAtN_e, intAt_e, intAtM_e, augS_e, augK_e, augL2_e, augKey_e, augO_e, augL3_e, augP_e, augN_e, augN1_e, augN2_e, augN3_e, nilL_e, consL_e, consL1_e, consL2_e, consL3_e, parS_e, parK_e, putL_nil, putL_cons, whlK_t, whlK_f, whlL_nx, whlL_ct, whlL_bk, whlL_rt, forK1_e, forK2_nx, forK2_ct, forK2_bk, forK2_rt, forS_e, forK_e, itF_e, itK_e, itL_e, itM_e, items_tup, items_lst, items_str, compF_e, compK2_e, yesT_e, truth_bl, eqS_int, neS_int, ltS_int, gtS_int, leS_int, geS_int, addS_int, subS_int, mulS_int, divS_int, modS_int, intS_int, idx_ls, idx_lst, idx_tup, idxM_e, idxD_e, atI0, atI1, atI2, atI3, slice_tup, slice_lst, ers_nil, ers_cons, ers_map, cat_lst, cat_tup, set_0, set_1, set_2, runK_rt, runK_nx, runL_e, lent_none, lent_some, wipe_n, wipe_c, back_n, back_c, of_some, mthF_e, mthL_e, mthK_e, mthM_e, mthN_e, napp_e, qSlot_e, fzOf_e, rgLF_e, rgLK_e, rgLM_e, putS, Option.map_some, List.set_cons_zero, List.set_cons_succ, List.map_cons, List.map_nil, List.length_cons, List.length_nil, List.length_set, List.mem_cons, List.not_mem_nil, or_false, Nat.reduceAdd, Nat.reduceLT, Nat.reduceEqDiff, List.nil_append, List.cons_append, List.replicate, Nat.reduceSub, not_false_eq_true, decide_true, Bool.and_self, Int.reduceLT, Int.reduceLE, len_nats, hd, idx_nats ha hat, idx_tab hv, hx, e]
      · rw [List.append_assoc, List.flatMap_append, List.flatMap_cons, sub_eq g hv]
        refine List.Perm.append_left done ?_
        show (v :: (q.flatMap (sub rs) ++ (kids rs v).flatMap (sub rs))).Perm (v :: ((kids rs v).flatMap (sub rs) ++ q.flatMap (sub rs)))
        exact (List.perm_append_comm).cons v
theorem branch_spec {rs : List Room} {k : Int} (g : Dun rs) {v : Nat} (hv : v < rs.length) : f_branch_of [.fz (dunD rs k), .fz (natD v)] = .ok (.fz (.tup (natsD (below rs v))), .fz .non) := by
  have hl := g.len
  have hsl := sub_len g hv
  unfold f_branch_of g_branch_of whlS
  rw [runF_e]
  case h => rfl
  obtain ⟨res, a', e, hp⟩ := bfs_loop (dg := some (.fz (dunD rs k))) (vv := some (.fz (natD v))) g (sub rs v).length WF [] [v] 0 (by rw [List.flatMap_cons, List.flatMap_nil, List.append_nil]) (fun u hu => by simp at hu; omega) (by unfold WF; omega) (by rw [List.length_nil]; omega) rfl
  rw [List.nil_append, List.flatMap_cons, List.flatMap_nil, List.append_nil] at hp
  have hone : (natsD ([] ++ [v])).map OV.fz = [.fz (natD v)] := rfl
  rw [hone] at e
  have hs := sortS_nats res (by rw [hp.length_eq]; omega)
  have hs2 : srt res = natsD (below rs v) := srt_eq (hp.trans (sub_perm g hv)) (by unfold below; exact List.Pairwise.filter _ List.pairwise_lt_range)
  rw [hs2] at hs
  simp only [okb, badb, gdt, sl0, slS, eSlot_e, eSlotK_some, eLit_e, opd_val, opd_sl, vw_val, vw_sl, er_fz, er_ls, two_e, twoK_e, twoL_e, twoM_e, valK_e, tru_e, truK_e, truM_e, blK_e, boF_e, boK_e, boM_e, boN_tt, boN_tf, boN_ft, boN_ff, notF_e, notK_e, iteF_e, iteK_t, iteK_f, negF_e, negK_e, negM_e, nilA_e, consA_e, consA1_e, consA2_e, consA3_e, kept_t, kept_f, keptK_e, settle_val, settle_sl, frzSlot_fz, frzSlot_ls, tupF_e, lstF_e, tupK_e, dsK_e, datas_nil, datas_cons, vws_nil, vws_cons, vwsK_e, biF_e, biK_e, biM_e, rngF_e, rngK_e, rngM_e, itsK_e, callF_e, callK_e, callN_none, callN_some, argsOf_none, argsOf_zero, argsOf_succ, argL_e, noneO_e, someO_e, someK_e, someM_e, sliF_e, sliK_e, sliL1_e, sliL2_e, sliM_e, nxS_e, bkS_e, ctS_e, seqS_e, seqK_nx, seqK_rt, seqK_bk, seqK_ct, ifS_e, ifK_t, ifK_f, exS_e, exK_e, retS_e, retK_e, retL_e, retN_e, give_val, give_sl, giveSlot_fz, giveSlot_ls, take_tv, take_ts, take_f, takeK_e, nxK_e, setS_e, setK_e, setL2_e, asgS_e, asgK_e, asgL_e, nameG_e, nilG_e, consG_e, stS_e, stK_e, stL1_e, stL2_e, stL3_e, stM_e, intOf_e, setAt_e, setAtN_e, intAt_e, intAtM_e, augS_e, augK_e, augL2_e, augKey_e, augO_e, augL3_e, augP_e, augN_e, augN1_e, augN2_e, augN3_e, nilL_e, consL_e, consL1_e, consL2_e, consL3_e, parS_e, parK_e, putL_nil, putL_cons, whlK_t, whlK_f, whlL_nx, whlL_ct, whlL_bk, whlL_rt, forK1_e, forK2_nx, forK2_ct, forK2_bk, forK2_rt, forS_e, forK_e, itF_e, itK_e, itL_e, itM_e, items_tup, items_lst, items_str, compF_e, compK2_e, yesT_e, truth_bl, eqS_int, neS_int, ltS_int, gtS_int, leS_int, geS_int, addS_int, subS_int, mulS_int, divS_int, modS_int, intS_int, idx_ls, idx_lst, idx_tup, idxM_e, idxD_e, atI0, atI1, atI2, atI3, slice_tup, slice_lst, ers_nil, ers_cons, ers_map, cat_lst, cat_tup, set_0, set_1, set_2, runK_rt, runK_nx, runL_e, lent_none, lent_some, wipe_n, wipe_c, back_n, back_c, of_some, mthF_e, mthL_e, mthK_e, mthM_e, mthN_e, napp_e, qSlot_e, fzOf_e, rgLF_e, rgLK_e, rgLM_e, putS, Option.map_some, List.set_cons_zero, List.set_cons_succ, List.map_cons, List.map_nil, List.length_cons, List.length_nil, List.length_set, List.mem_cons, List.not_mem_nil, or_false, Nat.reduceAdd, Nat.reduceLT, Nat.reduceEqDiff, List.nil_append, List.cons_append, List.replicate, Nat.reduceSub, not_false_eq_true, decide_true, Bool.and_self, Int.reduceLT, Int.reduceLE, callM_e, children_spec g, ers_tab, size_ok 1 (by decide), e, hs, tupS_fz]
end K15

namespace K15
open PySem PySem.Spec PyProof.Rows L2 Pf
theorem take_eq : f__law_take = takeV := rfl
theorem some_eq : f__law_some = someF := rfl
theorem alike_eq : f__law_alike = alikeF := rfl
theorem bag_eq : f__law_bag = bagF := rfl
theorem range_nat (n : Nat) (h : n ≤ 1000) : range1S [.fz (.int n)] = .ok (rangeL 0 n 1) := by
  unfold range1S okR
  dsimp only
  rw [decide_eq_true (by omega)]
  simp
theorem rangeL_nat (n : Nat) : rangeL 0 n 1 = natsD (List.range n) := by
  unfold rangeL natsD natD
  apply List.map_congr_left
  intro i _
  rw [Int.zero_add, Int.mul_one]
/-! is it in a list -/
theorem eqv_nat (a b : Nat) : D.eqv (natD a) (natD b) = decide (a = b) := by
  unfold natD
  rw [eqv_int]
  by_cases h : a = b
  · simp [h]
  · simp [h]; omega
theorem mem_nats (v : Nat) (l : List Nat) : D.mem (natD v) (natsD l) = decide (v ∈ l) := by
  unfold D.mem natsD
  induction l with
  | nil => simp
  | cons x xs ih =>
    rw [List.map_cons, List.any_cons, ih, eqv_nat]
    by_cases h : x = v
    · simp [h]
    · simp [h, Ne.symm h]
theorem memS_lst (neg : Bool) (v : Nat) (l : List Nat) : memS neg (.fz (natD v)) (.fz (.lst (natsD l))) = .ok (.fz (.bl (neg.xor (decide (v ∈ l))))) := by
  show gd (decide ((natD v).dep ≤ 60)) (OV.fz (.bl (neg.xor (D.mem (natD v) (natsD l))))) = _
  rw [mem_nats]
  unfold natD
  rw [dep_int]
  rfl
theorem memS_tup (neg : Bool) (v : Nat) (l : List Nat) : memS neg (.fz (natD v)) (.fz (.tup (natsD l))) = .ok (.fz (.bl (neg.xor (decide (v ∈ l))))) := memS_lst neg v l
theorem mem_non (l : List Nat) : D.mem .non (natsD l) = false := by
  unfold D.mem natsD
  induction l with
  | nil => rfl
  | cons x xs ih =>
    rw [List.map_cons, List.any_cons, ih]
    unfold natD D.eqv D.py
    simp [PyData.eqv]
theorem memS_par (neg : Bool) (o : Option Nat) (l : List Nat) : memS neg (.fz (parD o)) (.fz (.tup (natsD l))) = .ok (.fz (.bl (neg.xor (match o with | none => false | some p => decide (p ∈ l))))) := by
  cases o with
  | some p => exact memS_tup neg p l
  | none =>
    show gd (decide (D.dep .non ≤ 60)) (OV.fz (.bl (neg.xor (D.mem .non (natsD l))))) = _
    rw [mem_non]
    cases neg <;> rfl
/-! comprehensions that let some of the items by -/
def keepIf (p : Nat → Bool) (d : D) : Option OV := match d with
  | .int i => if p i.toNat = true then some (.fz d) else none
  | _ => none
theorem keepIf_nat (p : Nat → Bool) (x : Nat) : keepIf p (natD x) = if p x = true then some (OV.fz (natD x)) else none := by
  show (if p ((x : Int).toNat) = true then some (OV.fz (natD x)) else none) = _
  rw [Int.toNat_natCast]
theorem filter_fz (p : Nat → Bool) (l : List Nat) : (natsD l).filterMap (keepIf p) = (natsD (l.filter p)).map OV.fz := by
  unfold natsD
  induction l with
  | nil => rfl
  | cons x xs ih =>
    rw [List.map_cons, List.filterMap_cons, List.filter_cons, keepIf_nat]
    cases h : p x with
    | true =>
      simp only [if_true]
      rw [List.map_cons, List.map_cons, ← ih]
    | false =>
      simp only [Bool.false_eq_true, if_false]
      exact ih
theorem law_branch_spec {rs : List Room} {k : Int} (g : Dun rs) {v : Nat} (hv : v < rs.length) : f__law_branch [.fz (dunD rs k), .fz (natD v)] = .ok (.ls ((natsD (below rs v)).map OV.fz), .fz .non) := by
  have hl := g.len
  unfold f__law_branch g__law_branch
  rw [runF_e]
  case h => rfl
  have turn : ∀ (d : D) (τ : T), (∃ u, u < rs.length ∧ d = natD u) → (∃ o, τ = [some (.fz (dunD rs k)), some (.fz (natD v)), o]) → ∃ τ1 b τ2, nameG [] 2 d (wipeT τ [2]) = .ok τ1 ∧ tru (two (eSlot 1) (callF 2 none f__law_up (consA [] false (eSlot 0) (consA [] false (eSlot 2) nilA))) (memS false)) τ1 = .ok (b, τ2) ∧
      (b = false → keepIf (fun u => decide (v ∈ up rs u)) d = none ∧ (∃ o, τ2 = [some (.fz (dunD rs k)), some (.fz (natD v)), o])) ∧
      (b = true → ∃ p τ3 o τ4, eSlot 2 τ2 = .ok (p, τ3) ∧ Pf.take [] false p τ3 = .ok (o, τ4) ∧ keepIf (fun u => decide (v ∈ up rs u)) d = some o ∧ (∃ o, τ4 = [some (.fz (dunD rs k)), some (.fz (natD v)), o])) := by
    rintro d τ ⟨u, hu, rfl⟩ ⟨o, rfl⟩
    refine ⟨[some (.fz (dunD rs k)), some (.fz (natD v)), some (.fz (natD u))], decide (v ∈ up rs u), [some (.fz (dunD rs k)), some (.fz (natD v)), some (.fz (natD u))], rfl, ?_, fun h => ⟨?_, ⟨_, rfl⟩⟩, fun h => ⟨.sl 2, [some (.fz (dunD rs k)), some (.fz (natD v)), some (.fz (natD u))], .fz (natD u), _, rfl, rfl, ?_, ⟨_, rfl⟩⟩⟩
    · have hm := memS_lst false v (up rs u)
      rw [Bool.false_xor] at hm
      simp only [okb, badb, gdt, sl0, slS, eSlot_e, eSlotK_some, eLit_e, opd_val, opd_sl, vw_val, vw_sl, er_fz, er_ls, two_e, twoK_e, twoL_e, twoM_e, valK_e, tru_e, truK_e, truM_e, blK_e, boF_e, boK_e, boM_e, boN_tt, boN_tf, boN_ft, boN_ff, notF_e, notK_e, iteF_e, iteK_t, iteK_f, negF_e, negK_e, negM_e, nilA_e, consA_e, consA1_e, consA2_e, consA3_e, kept_t, kept_f, keptK_e, settle_val, settle_sl, frzSlot_fz, frzSlot_ls, tupF_e, lstF_e, tupK_e, dsK_e, datas_nil, datas_cons, vws_nil, vws_cons, vwsK_e, biF_e, biK_e, biM_e, rngF_e, rngK_e, rngM_e, itsK_e, callF_e, callK_e, callN_none, callN_some, argsOf_none, argsOf_zero, argsOf_succ, argL_e, noneO_e, someO_e, someK_e, someM_e, sliF_e, sliK_e, sliL1_e, sliL2_e, sliM_e, nxS_e, bkS_e, ctS_e, seqS_e, seqK_nx, seqK_rt, seqK_bk, seqK_ct, ifS_e, ifK_t, ifK_f, exS_e, exK_e, retS_e, retK_e, retL_e, retN_e, give_val, give_sl, giveSlot_fz, giveSlot_ls, take_tv, take_ts, take_f, takeK_e, nxK_e, setS_e, setK_e, setL2_e, asgS_e, asgK_e, asgL_e, nameG_e, nilG_e, consG_e, stS_e, stK_e, stL1_e, stL2_e, stL3_e, stM_e, intOf_e, setAt_e, setAtN_e, intAt_e, intAtM_e, augS_e, augK_e, augL2_e, augKey_e, augO_e, augL3_e, augP_e, augN_e, augN1_e, augN2_e, augN3_e, nilL_e, consL_e, consL1_e, consL2_e, consL3_e, parS_e, parK_e, putL_nil, putL_cons, whlK_t, whlK_f, whlL_nx, whlL_ct, whlL_bk, whlL_rt, forK1_e, forK2_nx, forK2_ct, forK2_bk, forK2_rt, forS_e, forK_e, itF_e, itK_e, itL_e, itM_e, items_tup, items_lst, items_str, compF_e, compK2_e, yesT_e, truth_bl, eqS_int, neS_int, ltS_int, gtS_int, leS_int, geS_int, addS_int, subS_int, mulS_int, divS_int, modS_int, intS_int, idx_ls, idx_lst, idx_tup, idxM_e, idxD_e, atI0, atI1, atI2, atI3, slice_tup, slice_lst, ers_nil, ers_cons, ers_map, cat_lst, cat_tup, set_0, set_1, set_2, runK_rt, runK_nx, runL_e, lent_none, lent_some, wipe_n, wipe_c, back_n, back_c, of_some, mthF_e, mthL_e, mthK_e, mthM_e, mthN_e, napp_e, qSlot_e, fzOf_e, rgLF_e, rgLK_e, rgLM_e, putS, Option.map_some, List.set_cons_zero, List.set_cons_succ, List.map_cons, List.map_nil, List.length_cons, List.length_nil, List.length_set, List.mem_cons, List.not_mem_nil, or_false, Nat.reduceAdd, Nat.reduceLT, Nat.reduceEqDiff, List.nil_append, List.cons_append, List.replicate, Nat.reduceSub, not_false_eq_true, decide_true, Bool.and_self, Int.reduceLT, Int.reduceLE, callM_e, lup_spec g hu, hm]
    · rw [keepIf_nat, h]; rfl
    · rw [keepIf_nat, h]; rfl
  obtain ⟨τ', e, o, rfl⟩ := comp_map (io := []) (vs := [2]) (own := false) (g := nameG [] 2) (c := tru (two (eSlot 1) (callF 2 none f__law_up (consA [] false (eSlot 0) (consA [] false (eSlot 2) nilA))) (memS false))) (f := eSlot 2) (fun τ => ∃ o, τ = [some (.fz (dunD rs k)), some (.fz (natD v)), o])
    (keepIf fun u => decide (v ∈ up rs u)) (fun d => ∃ u, u < rs.length ∧ d = natD u) turn (natsD (List.range rs.length)) [] [some (.fz (dunD rs k)), some (.fz (natD v)), none]
    (fun d hd => by unfold natsD at hd; obtain ⟨u, hu, e⟩ := List.mem_map.mp hd; exact ⟨u, List.mem_range.mp hu, e.symm⟩) ⟨_, rfl⟩ (by
      unfold natsD
      rw [List.length_map, List.length_range, List.length_nil]
      have : (1000 : Nat) ≤ sizeLine := by decide
      omega)
  rw [filter_fz (fun u => decide (v ∈ up rs u)), List.nil_append] at e
  have hz : ([2].all (noOwn [some (.fz (dunD rs k)), some (.fz (natD v)), none]) && [2].all (fun i => decide (i ∉ ([] : List Nat)))) = true := rfl
  simp only [okb, badb, gdt, sl0, slS, eSlot_e, eSlotK_some, eLit_e, opd_val, opd_sl, vw_val, vw_sl, er_fz, er_ls, two_e, twoK_e, twoL_e, twoM_e, valK_e, tru_e, truK_e, truM_e, blK_e, boF_e, boK_e, boM_e, boN_tt, boN_tf, boN_ft, boN_ff, notF_e, notK_e, iteF_e, iteK_t, iteK_f, negF_e, negK_e, negM_e, nilA_e, consA_e, consA1_e, consA2_e, consA3_e, kept_t, kept_f, keptK_e, settle_val, settle_sl, frzSlot_fz, frzSlot_ls, tupF_e, lstF_e, tupK_e, dsK_e, datas_nil, datas_cons, vws_nil, vws_cons, vwsK_e, biF_e, biK_e, biM_e, rngF_e, rngK_e, rngM_e, itsK_e, callF_e, callK_e, callN_none, callN_some, argsOf_none, argsOf_zero, argsOf_succ, argL_e, noneO_e, someO_e, someK_e, someM_e, sliF_e, sliK_e, sliL1_e, sliL2_e, sliM_e, nxS_e, bkS_e, ctS_e, seqS_e, seqK_nx, seqK_rt, seqK_bk, seqK_ct, ifS_e, ifK_t, ifK_f, exS_e, exK_e, retS_e, retK_e, retL_e, retN_e, give_val, give_sl, giveSlot_fz, giveSlot_ls, take_tv, take_ts, take_f, takeK_e, nxK_e, setS_e, setK_e, setL2_e, asgS_e, asgK_e, asgL_e, nameG_e, nilG_e, consG_e, stS_e, stK_e, stL1_e, stL2_e, stL3_e, stM_e, intOf_e, setAt_e, setAtN_e, intAt_e, intAtM_e, augS_e, augK_e, augL2_e, augKey_e, augO_e, augL3_e, augP_e, augN_e, augN1_e, augN2_e, augN3_e, nilL_e, consL_e, consL1_e, consL2_e, consL3_e, parS_e, parK_e, putL_nil, putL_cons, whlK_t, whlK_f, whlL_nx, whlL_ct, whlL_bk, whlL_rt, forK1_e, forK2_nx, forK2_ct, forK2_bk, forK2_rt, forS_e, forK_e, itF_e, itK_e, itL_e, itM_e, items_tup, items_lst, items_str, compF_e, compK2_e, yesT_e, truth_bl, eqS_int, neS_int, ltS_int, gtS_int, leS_int, geS_int, addS_int, subS_int, mulS_int, divS_int, modS_int, intS_int, idx_ls, idx_lst, idx_tup, idxM_e, idxD_e, atI0, atI1, atI2, atI3, slice_tup, slice_lst, ers_nil, ers_cons, ers_map, cat_lst, cat_tup, set_0, set_1, set_2, runK_rt, runK_nx, runL_e, lent_none, lent_some, wipe_n, wipe_c, back_n, back_c, of_some, mthF_e, mthL_e, mthK_e, mthM_e, mthN_e, napp_e, qSlot_e, fzOf_e, rgLF_e, rgLK_e, rgLM_e, putS, Option.map_some, List.set_cons_zero, List.set_cons_succ, List.map_cons, List.map_nil, List.length_cons, List.length_nil, List.length_set, List.mem_cons, List.not_mem_nil, or_false, Nat.reduceAdd, Nat.reduceLT, Nat.reduceEqDiff, List.nil_append, List.cons_append, List.replicate, Nat.reduceSub, not_false_eq_true, decide_true, Bool.and_self, Int.reduceLT, Int.reduceLE, idx_dun0, len_tupD, List.length_map, range_nat _ (show rs.length ≤ 1000 by omega), rangeL_nat, compK_e _ _ _ _ _ _ _ _ hz, e]
  rfl
/-! the rim -/
def rim (rs : List Room) (lot : List Nat) : List Nat := (List.range rs.length).filter fun v => decide (v ∉ lot) && (match parOf rs v with | none => false | some p => decide (p ∈ lot))
theorem enum_get (rs : List Room) : ∀ (i : Nat) (l : List D) (d : D), d ∈ enumL i l → ∃ j x, l[j]? = some x ∧ d = .tup [natD (i + j), x]
  | i, [], d, h => by simp [enumL] at h
  | i, x :: xs, d, h => by
    rw [enumL] at h
    rcases List.mem_cons.mp h with e | h
    · exact ⟨0, x, rfl, by rw [e, Nat.add_zero]; rfl⟩
    · obtain ⟨j, y, h1, h2⟩ := enum_get rs (i + 1) xs d h
      exact ⟨j + 1, y, by simpa using h1, by rw [h2, show i + 1 + j = i + (j + 1) by omega]⟩
end K15

namespace K15
open PySem PySem.Spec PyProof.Rows L2 Pf
def keepP (p : Nat → Bool) (d : D) : Option OV := match d with
  | .tup [x, _] => keepIf p x
  | _ => none
theorem keepP_enum (p : Nat → Bool) : ∀ (l : List D) (i : Nat), (enumL i l).filterMap (keepP p) = (natsD (List.range' i l.length)).filterMap (keepIf p)
  | [], i => rfl
  | x :: xs, i => by
    rw [enumL, List.length_cons, List.range'_succ]
    unfold natsD
    rw [List.filterMap_cons, List.map_cons, List.filterMap_cons]
    have e : keepP p (.tup [.int i, x]) = keepIf p (natD i) := rfl
    rw [e]
    have ih := keepP_enum p xs (i + 1)
    unfold natsD at ih
    rw [ih]
def inRim (rs : List Room) (lot : List Nat) (v : Nat) : Bool := decide (v ∉ lot) && (match parOf rs v with | none => false | some p => decide (p ∈ lot))
theorem rim_test {rs : List Room} {lot : List Nat} {v : Nat} {f1 f2 : FP} {τ : T} (h : v < rs.length) (e1 : f1 τ = .ok (.val (.fz (.bl (decide (v ∉ lot)))), τ)) (e2 : f2 τ = .ok (.val (.fz (.bl (match rs[v].par with | none => false | some p => decide (p ∈ lot)))), τ)) : tru (boF false f1 f2) τ = .ok (inRim rs lot v, τ) := by
  have hp : parOf rs v = rs[v].par := by unfold parOf; rw [room_get h]; rfl
  have ein : inRim rs lot v = (decide (v ∉ lot) && (match rs[v].par with | none => false | some p => decide (p ∈ lot))) := by unfold inRim; rw [hp]
  rw [ein]
  generalize decide (v ∉ lot) = b1 at *
  generalize (match rs[v].par with | none => false | some p => decide (p ∈ lot)) = b2 at *
  cases b1 with
  | false => simp only [okb, badb, gdt, sl0, slS, eSlot_e, eSlotK_some, eLit_e, opd_val, opd_sl, vw_val, vw_sl, er_fz, er_ls, two_e, twoK_e, twoL_e, twoM_e, valK_e, tru_e, truK_e, truM_e, blK_e, boF_e, boK_e, boM_e, boN_tt, boN_tf, boN_ft, boN_ff, notF_e, notK_e, iteF_e, iteK_t, iteK_f, negF_e, negK_e, negM_e, nilA_e, consA_e, consA1_e, consA2_e, consA3_e, kept_t, kept_f, keptK_e, settle_val, settle_sl, frzSlot_fz, frzSlot_ls, tupF_e, lstF_e, tupK_e, dsK_e, datas_nil, datas_cons, vws_nil, vws_cons, vwsK_e, biF_e, biK_e, biM_e, rngF_e, rngK_e, rngM_e, itsK_e, callF_e, callK_e, callN_none, callN_some, argsOf_none, argsOf_zero, argsOf_succ, argL_e, noneO_e, someO_e, someK_e, someM_e, sliF_e, sliK_e, sliL1_e, sliL2_e, sliM_e, nxS_e, bkS_e, ctS_e, seqS_e, seqK_nx, seqK_rt, seqK_bk, seqK_ct, ifS_e, ifK_t, ifK_f, exS_e, exK_e, retS_e, retK_e, retL_e, retN_e, give_val, give_sl, giveSlot_fz, giveSlot_ls, take_tv, take_ts, take_f, takeK_e, nxK_e, setS_e, setK_e, setL2_e, asgS_e, asgK_e, asgL_e, nameG_e, nilG_e, consG_e, stS_e, stK_e, stL1_e, stL2_e, stL3_e, stM_e, intOf_e, setAt_e, setAtN_e, intAt_e, intAtM_e, augS_e, augK_e, augL2_e, augKey_e, augO_e, augL3_e, augP_e, augN_e, augN1_e, augN2_e, augN3_e, nilL_e, consL_e, consL1_e, consL2_e, consL3_e, parS_e, parK_e, putL_nil, putL_cons, whlK_t, whlK_f, whlL_nx, whlL_ct, whlL_bk, whlL_rt, forK1_e, forK2_nx, forK2_ct, forK2_bk, forK2_rt, forS_e, forK_e, itF_e, itK_e, itL_e, itM_e, items_tup, items_lst, items_str, compF_e, compK2_e, yesT_e, truth_bl, eqS_int, neS_int, ltS_int, gtS_int, leS_int, geS_int, addS_int, subS_int, mulS_int, divS_int, modS_int, intS_int, idx_ls, idx_lst, idx_tup, idxM_e, idxD_e, atI0, atI1, atI2, atI3, slice_tup, slice_lst, ers_nil, ers_cons, ers_map, cat_lst, cat_tup, set_0, set_1, set_2, runK_rt, runK_nx, runL_e, lent_none, lent_some, wipe_n, wipe_c, back_n, back_c, of_some, mthF_e, mthL_e, mthK_e, mthM_e, mthN_e, napp_e, qSlot_e, fzOf_e, rgLF_e, rgLK_e, rgLM_e, putS, Option.map_some, List.set_cons_zero, List.set_cons_succ, List.map_cons, List.map_nil, List.length_cons, List.length_nil, List.length_set, List.mem_cons, List.not_mem_nil, or_false, Nat.reduceAdd, Nat.reduceLT, Nat.reduceEqDiff, List.nil_append, List.cons_append, List.replicate, Nat.reduceSub, not_false_eq_true, decide_true, Bool.and_self, Int.reduceLT, Int.reduceLE, e1]; rfl
  | true => simp only [okb, badb, gdt, sl0, slS, eSlot_e, eSlotK_some, eLit_e, opd_val, opd_sl, vw_val, vw_sl, er_fz, er_ls, two_e, twoK_e, twoL_e, twoM_e, valK_e, tru_e, truK_e, truM_e, blK_e, boF_e, boK_e, boM_e, boN_tt, boN_tf, boN_ft, boN_ff, notF_e, notK_e, iteF_e, iteK_t, iteK_f, negF_e, negK_e, negM_e, nilA_e, consA_e, consA1_e, consA2_e, consA3_e, kept_t, kept_f, keptK_e, settle_val, settle_sl, frzSlot_fz, frzSlot_ls, tupF_e, lstF_e, tupK_e, dsK_e, datas_nil, datas_cons, vws_nil, vws_cons, vwsK_e, biF_e, biK_e, biM_e, rngF_e, rngK_e, rngM_e, itsK_e, callF_e, callK_e, callN_none, callN_some, argsOf_none, argsOf_zero, argsOf_succ, argL_e, noneO_e, someO_e, someK_e, someM_e, sliF_e, sliK_e, sliL1_e, sliL2_e, sliM_e, nxS_e, bkS_e, ctS_e, seqS_e, seqK_nx, seqK_rt, seqK_bk, seqK_ct, ifS_e, ifK_t, ifK_f, exS_e, exK_e, retS_e, retK_e, retL_e, retN_e, give_val, give_sl, giveSlot_fz, giveSlot_ls, take_tv, take_ts, take_f, takeK_e, nxK_e, setS_e, setK_e, setL2_e, asgS_e, asgK_e, asgL_e, nameG_e, nilG_e, consG_e, stS_e, stK_e, stL1_e, stL2_e, stL3_e, stM_e, intOf_e, setAt_e, setAtN_e, intAt_e, intAtM_e, augS_e, augK_e, augL2_e, augKey_e, augO_e, augL3_e, augP_e, augN_e, augN1_e, augN2_e, augN3_e, nilL_e, consL_e, consL1_e, consL2_e, consL3_e, parS_e, parK_e, putL_nil, putL_cons, whlK_t, whlK_f, whlL_nx, whlL_ct, whlL_bk, whlL_rt, forK1_e, forK2_nx, forK2_ct, forK2_bk, forK2_rt, forS_e, forK_e, itF_e, itK_e, itL_e, itM_e, items_tup, items_lst, items_str, compF_e, compK2_e, yesT_e, truth_bl, eqS_int, neS_int, ltS_int, gtS_int, leS_int, geS_int, addS_int, subS_int, mulS_int, divS_int, modS_int, intS_int, idx_ls, idx_lst, idx_tup, idxM_e, idxD_e, atI0, atI1, atI2, atI3, slice_tup, slice_lst, ers_nil, ers_cons, ers_map, cat_lst, cat_tup, set_0, set_1, set_2, runK_rt, runK_nx, runL_e, lent_none, lent_some, wipe_n, wipe_c, back_n, back_c, of_some, mthF_e, mthL_e, mthK_e, mthM_e, mthN_e, napp_e, qSlot_e, fzOf_e, rgLF_e, rgLK_e, rgLM_e, putS, Option.map_some, List.set_cons_zero, List.set_cons_succ, List.map_cons, List.map_nil, List.length_cons, List.length_nil, List.length_set, List.mem_cons, List.not_mem_nil, or_false, Nat.reduceAdd, Nat.reduceLT, Nat.reduceEqDiff, List.nil_append, List.cons_append, List.replicate, Nat.reduceSub, not_false_eq_true, decide_true, Bool.and_self, Int.reduceLT, Int.reduceLE, e1, e2]; rfl
theorem rim_spec {rs : List Room} {k : Int} {lot : List Nat} (g : Dun rs) : f_rim_of [.fz (dunD rs k), .fz (.tup (natsD lot))] = .ok (.fz (.tup (natsD ((List.range rs.length).filter (inRim rs lot)))), .fz .non) := by
  have hl := g.len
  unfold f_rim_of g_rim_of
  rw [runF_e]
  case h => rfl
  have turn : ∀ (d : D) (τ : T), (∃ v, ∃ h : v < rs.length, d = .tup [natD v, roomD rs[v]]) → (∃ o o', τ = [some (.fz (dunD rs k)), some (.fz (.tup (natsD lot))), o, o']) → ∃ τ1 b τ2, tupG 2 (consG (nameG [] 2) (consG (nameG [] 3) nilG)) d (wipeT τ [2, 3]) = .ok τ1 ∧ tru (boF false (two (eSlot 2) (eSlot 1) (memS true)) (two (two (eSlot 3) (eLit (.int 0)) idxS) (eSlot 1) (memS false))) τ1 = .ok (b, τ2) ∧
      (b = false → keepP (inRim rs lot) d = none ∧ (∃ o o', τ2 = [some (.fz (dunD rs k)), some (.fz (.tup (natsD lot))), o, o'])) ∧
      (b = true → ∃ p τ3 o τ4, eSlot 2 τ2 = .ok (p, τ3) ∧ Pf.take [] false p τ3 = .ok (o, τ4) ∧ keepP (inRim rs lot) d = some o ∧ (∃ o o', τ4 = [some (.fz (dunD rs k)), some (.fz (.tup (natsD lot))), o, o'])) := by
    rintro d τ ⟨v, hv, rfl⟩ ⟨o, o', rfl⟩
    have hk : keepP (inRim rs lot) (.tup [natD v, roomD rs[v]]) = if inRim rs lot v = true then some (OV.fz (natD v)) else none := keepIf_nat _ v
    have m1 := memS_tup true v lot
    have m2 := memS_par false rs[v].par lot
    rw [Bool.true_xor] at m1
    rw [Bool.false_xor] at m2
    have hnm : (!decide (v ∈ lot)) = decide (v ∉ lot) := by by_cases h : v ∈ lot <;> simp [h]
    rw [hnm] at m1
    refine ⟨[some (.fz (dunD rs k)), some (.fz (.tup (natsD lot))), some (.fz (natD v)), some (.fz (roomD rs[v]))], inRim rs lot v, [some (.fz (dunD rs k)), some (.fz (.tup (natsD lot))), some (.fz (natD v)), some (.fz (roomD rs[v]))], rfl, rim_test hv ?_ ?_, fun h => ⟨?_, _, _, rfl⟩, fun h => ⟨.sl 2, [some (.fz (dunD rs k)), some (.fz (.tup (natsD lot))), some (.fz (natD v)), some (.fz (roomD rs[v]))], .fz (natD v), _, rfl, rfl, ?_, _, _, rfl⟩⟩
    · simp only [okb, badb, gdt, sl0, slS, eSlot_e, eSlotK_some, eLit_e, opd_val, opd_sl, vw_val, vw_sl, er_fz, er_ls, two_e, twoK_e, twoL_e, twoM_e, valK_e, tru_e, truK_e, truM_e, blK_e, boF_e, boK_e, boM_e, boN_tt, boN_tf, boN_ft, boN_ff, notF_e, notK_e, iteF_e, iteK_t, iteK_f, negF_e, negK_e, negM_e, nilA_e, consA_e, consA1_e, consA2_e, consA3_e, kept_t, kept_f, keptK_e, settle_val, settle_sl, frzSlot_fz, frzSlot_ls, tupF_e, lstF_e, tupK_e, dsK_e, datas_nil, datas_cons, vws_nil, vws_cons, vwsK_e, biF_e, biK_e, biM_e, rngF_e, rngK_e, rngM_e, itsK_e, callF_e, callK_e, callN_none, callN_some, argsOf_none, argsOf_zero, argsOf_succ, argL_e, noneO_e, someO_e, someK_e, someM_e, sliF_e, sliK_e, sliL1_e, sliL2_e, sliM_e, nxS_e, bkS_e, ctS_e, seqS_e, seqK_nx, seqK_rt, seqK_bk, seqK_ct, ifS_e, ifK_t, ifK_f, exS_e, exK_e, retS_e, retK_e, retL_e, retN_e, give_val, give_sl, giveSlot_fz, giveSlot_ls, take_tv, take_ts, take_f, takeK_e, nxK_e, setS_e, setK_e, setL2_e, asgS_e, asgK_e, asgL_e, nameG_e, nilG_e, consG_e, stS_e, stK_e, stL1_e, stL2_e, stL3_e, stM_e, intOf_e, setAt_e, setAtN_e, intAt_e, intAtM_e, augS_e, augK_e, augL2_e, augKey_e, augO_e, augL3_e, augP_e, augN_e, augN1_e, augN2_e, augN3_e, nilL_e, consL_e, consL1_e, consL2_e, consL3_e, parS_e, parK_e, putL_nil, putL_cons, whlK_t, whlK_f, whlL_nx, whlL_ct, whlL_bk, whlL_rt, forK1_e, forK2_nx, forK2_ct, forK2_bk, forK2_rt, forS_e, forK_e, itF_e, itK_e, itL_e, itM_e, items_tup, items_lst, items_str, compF_e, compK2_e, yesT_e, truth_bl, eqS_int, neS_int, ltS_int, gtS_int, leS_int, geS_int, addS_int, subS_int, mulS_int, divS_int, modS_int, intS_int, idx_ls, idx_lst, idx_tup, idxM_e, idxD_e, atI0, atI1, atI2, atI3, slice_tup, slice_lst, ers_nil, ers_cons, ers_map, cat_lst, cat_tup, set_0, set_1, set_2, runK_rt, runK_nx, runL_e, lent_none, lent_some, wipe_n, wipe_c, back_n, back_c, of_some, mthF_e, mthL_e, mthK_e, mthM_e, mthN_e, napp_e, qSlot_e, fzOf_e, rgLF_e, rgLK_e, rgLM_e, putS, Option.map_some, List.set_cons_zero, List.set_cons_succ, List.map_cons, List.map_nil, List.length_cons, List.length_nil, List.length_set, List.mem_cons, List.not_mem_nil, or_false, Nat.reduceAdd, Nat.reduceLT, Nat.reduceEqDiff, List.nil_append, List.cons_append, List.replicate, Nat.reduceSub, not_false_eq_true, decide_true, Bool.and_self, Int.reduceLT, Int.reduceLE, m1]
    · simp only [okb, badb, gdt, sl0, slS, eSlot_e, eSlotK_some, eLit_e, opd_val, opd_sl, vw_val, vw_sl, er_fz, er_ls, two_e, twoK_e, twoL_e, twoM_e, valK_e, tru_e, truK_e, truM_e, blK_e, boF_e, boK_e, boM_e, boN_tt, boN_tf, boN_ft, boN_ff, notF_e, notK_e, iteF_e, iteK_t, iteK_f, negF_e, negK_e, negM_e, nilA_e, consA_e, consA1_e, consA2_e, consA3_e, kept_t, kept_f, keptK_e, settle_val, settle_sl, frzSlot_fz, frzSlot_ls, tupF_e, lstF_e, tupK_e, dsK_e, datas_nil, datas_cons, vws_nil, vws_cons, vwsK_e, biF_e, biK_e, biM_e, rngF_e, rngK_e, rngM_e, itsK_e, callF_e, callK_e, callN_none, callN_some, argsOf_none, argsOf_zero, argsOf_succ, argL_e, noneO_e, someO_e, someK_e, someM_e, sliF_e, sliK_e, sliL1_e, sliL2_e, sliM_e, nxS_e, bkS_e, ctS_e, seqS_e, seqK_nx, seqK_rt, seqK_bk, seqK_ct, ifS_e, ifK_t, ifK_f, exS_e, exK_e, retS_e, retK_e, retL_e, retN_e, give_val, give_sl, giveSlot_fz, giveSlot_ls, take_tv, take_ts, take_f, takeK_e, nxK_e, setS_e, setK_e, setL2_e, asgS_e, asgK_e, asgL_e, nameG_e, nilG_e, consG_e, stS_e, stK_e, stL1_e, stL2_e, stL3_e, stM_e, intOf_e, setAt_e, setAtN_e, intAt_e, intAtM_e, augS_e, augK_e, augL2_e, augKey_e, augO_e, augL3_e, augP_e, augN_e, augN1_e, augN2_e, augN3_e, nilL_e, consL_e, consL1_e, consL2_e, consL3_e, parS_e, parK_e, putL_nil, putL_cons, whlK_t, whlK_f, whlL_nx, whlL_ct, whlL_bk, whlL_rt, forK1_e, forK2_nx, forK2_ct, forK2_bk, forK2_rt, forS_e, forK_e, itF_e, itK_e, itL_e, itM_e, items_tup, items_lst, items_str, compF_e, compK2_e, yesT_e, truth_bl, eqS_int, neS_int, ltS_int, gtS_int, leS_int, geS_int, addS_int, subS_int, mulS_int, divS_int, modS_int, intS_int, idx_ls, idx_lst, idx_tup, idxM_e, idxD_e, atI0, atI1, atI2, atI3, slice_tup, slice_lst, ers_nil, ers_cons, ers_map, cat_lst, cat_tup, set_0, set_1, set_2, runK_rt, runK_nx, runL_e, lent_none, lent_some, wipe_n, wipe_c, back_n, back_c, of_some, mthF_e, mthL_e, mthK_e, mthM_e, mthN_e, napp_e, qSlot_e, fzOf_e, rgLF_e, rgLK_e, rgLM_e, putS, Option.map_some, List.set_cons_zero, List.set_cons_succ, List.map_cons, List.map_nil, List.length_cons, List.length_nil, List.length_set, List.mem_cons, List.not_mem_nil, or_false, Nat.reduceAdd, Nat.reduceLT, Nat.reduceEqDiff, List.nil_append, List.cons_append, List.replicate, Nat.reduceSub, not_false_eq_true, decide_true, Bool.and_self, Int.reduceLT, Int.reduceLE, idx_par, m2]
      all_goals (cases rs[v].par <;> rfl)
    · rw [hk, h]; rfl
    · rw [hk, h]; rfl
  obtain ⟨τ', e, o, o', rfl⟩ := comp_map (io := []) (vs := [2, 3]) (own := false) (g := tupG 2 (consG (nameG [] 2) (consG (nameG [] 3) nilG))) (c := tru (boF false (two (eSlot 2) (eSlot 1) (memS true)) (two (two (eSlot 3) (eLit (.int 0)) idxS) (eSlot 1) (memS false)))) (f := eSlot 2) (fun τ => ∃ o o', τ = [some (.fz (dunD rs k)), some (.fz (.tup (natsD lot))), o, o'])
    (keepP (inRim rs lot)) (fun d => ∃ v, ∃ h : v < rs.length, d = .tup [natD v, roomD rs[v]]) turn (enumL 0 (rs.map roomD)) [] [some (.fz (dunD rs k)), some (.fz (.tup (natsD lot))), none, none]
    (fun d hd => by
      obtain ⟨j, x, h1, h2⟩ := enum_get rs 0 _ d hd
      rw [List.getElem?_map] at h1
      by_cases hj : j < rs.length
      · rw [room_get hj] at h1
        cases h1
        exact ⟨j, hj, by rw [h2, Nat.zero_add]⟩
      · rw [List.getElem?_eq_none (by omega)] at h1
        cases h1) ⟨_, _, rfl⟩ (by
      rw [enumL_len, List.length_map, List.length_nil]
      have : (1000 : Nat) ≤ sizeLine := by decide
      omega)
  rw [keepP_enum, List.length_map, ← List.range_eq_range', filter_fz, List.nil_append] at e
  have hz : ([2, 3].all (noOwn [some (.fz (dunD rs k)), some (.fz (.tup (natsD lot))), none, none]) && [2, 3].all (fun i => decide (i ∉ ([] : List Nat)))) = true := rfl
  have hen : datL (enumL 0) [.fz (.tup (rs.map roomD))] = .ok (enumL 0 (rs.map roomD)) := rfl
  simp only [okb, badb, gdt, sl0, slS, eSlot_e, eSlotK_some, eLit_e, opd_val, opd_sl, vw_val, vw_sl, er_fz, er_ls, two_e, twoK_e, twoL_e, twoM_e, valK_e, tru_e, truK_e, truM_e, blK_e, boF_e, boK_e, boM_e, boN_tt, boN_tf, boN_ft, boN_ff, notF_e, notK_e, iteF_e, iteK_t, iteK_f, negF_e, negK_e, negM_e, nilA_e, consA_e, consA1_e, consA2_e, consA3_e, kept_t, kept_f, keptK_e, settle_val, settle_sl, frzSlot_fz, frzSlot_ls, tupF_e, lstF_e, tupK_e, dsK_e, datas_nil, datas_cons, vws_nil, vws_cons, vwsK_e, biF_e, biK_e, biM_e, rngF_e, rngK_e, rngM_e, itsK_e, callF_e, callK_e, callN_none, callN_some, argsOf_none, argsOf_zero, argsOf_succ, argL_e, noneO_e, someO_e, someK_e, someM_e, sliF_e, sliK_e, sliL1_e, sliL2_e, sliM_e, nxS_e, bkS_e, ctS_e, seqS_e, seqK_nx, seqK_rt, seqK_bk, seqK_ct, ifS_e, ifK_t, ifK_f, exS_e, exK_e, retS_e, retK_e, retL_e, retN_e, give_val, give_sl, giveSlot_fz, giveSlot_ls, take_tv, take_ts, take_f, takeK_e, nxK_e, setS_e, setK_e, setL2_e, asgS_e, asgK_e, asgL_e, nameG_e, nilG_e, consG_e, stS_e, stK_e, stL1_e, stL2_e, stL3_e, stM_e, intOf_e, setAt_e, setAtN_e, intAt_e, intAtM_e, augS_e, augK_e, augL2_e, augKey_e, augO_e, augL3_e, augP_e, augN_e, augN1_e, augN2_e, augN3_e, nilL_e, consL_e, consL1_e, consL2_e, consL3_e, parS_e, parK_e, putL_nil, putL_cons, whlK_t, whlK_f, whlL_nx, whlL_ct, whlL_bk, whlL_rt, forK1_e, forK2_nx, forK2_ct, forK2_bk, forK2_rt, forS_e, forK_e, itF_e, itK_e, itL_e, itM_e, items_tup, items_lst, items_str, compF_e, compK2_e, yesT_e, truth_bl, eqS_int, neS_int, ltS_int, gtS_int, leS_int, geS_int, addS_int, subS_int, mulS_int, divS_int, modS_int, intS_int, idx_ls, idx_lst, idx_tup, idxM_e, idxD_e, atI0, atI1, atI2, atI3, slice_tup, slice_lst, ers_nil, ers_cons, ers_map, cat_lst, cat_tup, set_0, set_1, set_2, runK_rt, runK_nx, runL_e, lent_none, lent_some, wipe_n, wipe_c, back_n, back_c, of_some, mthF_e, mthL_e, mthK_e, mthM_e, mthN_e, napp_e, qSlot_e, fzOf_e, rgLF_e, rgLK_e, rgLM_e, putS, Option.map_some, List.set_cons_zero, List.set_cons_succ, List.map_cons, List.map_nil, List.length_cons, List.length_nil, List.length_set, List.mem_cons, List.not_mem_nil, or_false, Nat.reduceAdd, Nat.reduceLT, Nat.reduceEqDiff, List.nil_append, List.cons_append, List.replicate, Nat.reduceSub, not_false_eq_true, decide_true, Bool.and_self, Int.reduceLT, Int.reduceLE, idx_dun0, hen, compK_e _ _ _ _ _ _ _ _ hz, e, tupS_fz]
/-! is there a bar on the way -/
theorem srt_nats (l : List Nat) : ∃ m : List Nat, srt l = natsD m ∧ m.Perm l := by
  have hp := sort_perm (intsOf' l)
  refine ⟨((intsOf' l).mergeSort fun a b => decide (a ≤ b)).map Int.toNat, ?_, ?_⟩
  · unfold srt natsD
    rw [List.map_map]
    apply List.map_congr_left
    intro x hx
    have := hp.subset hx
    unfold intsOf' at this
    obtain ⟨u, _, rfl⟩ := List.mem_map.mp this
    show D.int ((u : Nat) : Int) = .int (((u : Int).toNat : Nat) : Int)
    rw [Int.toNat_natCast]
  · have h2 := hp.map Int.toNat
    have e : (intsOf' l).map Int.toNat = l := by
      unfold intsOf'
      rw [List.map_map]
      conv => rhs; rw [← List.map_id l]
      apply List.map_congr_left
      intro x _
      rfl
    rw [e] at h2
    exact h2
def barAt (rs : List Room) (u : Nat) : Bool := match rs[u]? with
  | some r => D.eqv r.way (.str "bar")
  | none => false
theorem eq_bar (d : D) : eqS (.fz d) (.fz (.str "bar")) = .ok (.fz (.bl (D.eqv d (.str "bar")))) := by
  show gd (depOk d (.str "bar")) (OV.fz (.bl (D.eqv d (.str "bar")))) = _
  have e : depOk d (.str "bar") = true := decide_eq_true (by rw [dep_str]; simp)
  rw [e]
  rfl
theorem barAt_get {rs : List Room} {u : Nat} (h : u < rs.length) : barAt rs u = D.eqv rs[u].way (.str "bar") := by unfold barAt; rw [room_get h]
def barV (rs : List Room) (d : D) : Option OV := match d with
  | .int i => some (.fz (.bl (barAt rs i.toNat)))
  | _ => none
theorem bars_map (rs : List Room) (l : List Nat) : (natsD l).filterMap (barV rs) = ((l.map (barAt rs)).map D.bl).map OV.fz := by
  unfold natsD
  induction l with
  | nil => rfl
  | cons x xs ih =>
    rw [List.map_cons, List.filterMap_cons, List.map_cons, List.map_cons, List.map_cons, ← ih]
    show OV.fz (.bl (barAt rs ((x : Int).toNat))) :: _ = _
    rw [Int.toNat_natCast]
theorem blsOf_map : ∀ l : List Bool, blsOf (l.map D.bl) = some l
  | [] => rfl
  | b :: l => by
    rw [List.map_cons, blsOf, blsOf_map l]
    rfl
theorem any_bls (l : List Bool) : allS false [.fz (.lst (l.map D.bl))] = .ok (.fz (.bl (l.any id))) := by
  unfold allS
  dsimp only
  rw [listOf_lst]
  dsimp only
  rw [blsOf_map]
  rfl
theorem up_lt {rs : List Room} (g : Dun rs) {v u : Nat} (hv : v < rs.length) (h : u ∈ up rs v) : u < rs.length := by
  have := up_le g v v u (Nat.le_refl _) h
  omega
theorem bar_spec {rs : List Room} {k : Int} (g : Dun rs) {v : Nat} (hv : v < rs.length) : f_way_has_bar [.fz (dunD rs k), .fz (natD v)] = .ok (.fz (.bl ((up rs v).any (barAt rs))), .fz .non) := by
  have hl := g.len
  obtain ⟨m, hm, hp⟩ := srt_nats (up rs v)
  have hml : m.length ≤ 12 := by
    rw [hp.length_eq]
    have := upL_len rs (v + 1) (some v)
    unfold up
    omega
  have hw := way_to_spec (k := k) g hv
  rw [hm] at hw
  unfold f_way_has_bar g_way_has_bar
  rw [runF_e]
  case h => rfl
  have turn : ∀ (d : D) (τ : T), (∃ u, u < rs.length ∧ d = natD u) → (∃ o, τ = [some (.fz (dunD rs k)), some (.fz (natD v)), o]) → ∃ τ1 b τ2, nameG [] 2 d (wipeT τ [2]) = .ok τ1 ∧ yesT τ1 = .ok (b, τ2) ∧
      (b = false → barV rs d = none ∧ (∃ o, τ2 = [some (.fz (dunD rs k)), some (.fz (natD v)), o])) ∧
      (b = true → ∃ p τ3 o τ4, two (two (two (two (eSlot 0) (eLit (.int 0)) idxS) (eSlot 2) idxS) (eLit (.int 1)) idxS) (eLit (.str "bar")) eqS τ2 = .ok (p, τ3) ∧ Pf.take [] false p τ3 = .ok (o, τ4) ∧ barV rs d = some o ∧ (∃ o, τ4 = [some (.fz (dunD rs k)), some (.fz (natD v)), o])) := by
    rintro d τ ⟨u, hu, rfl⟩ ⟨o, rfl⟩
    have hb : barV rs (natD u) = some (.fz (.bl (barAt rs u))) := by
      show some (OV.fz (.bl (barAt rs ((u : Int).toNat)))) = _
      rw [Int.toNat_natCast]
    refine ⟨[some (.fz (dunD rs k)), some (.fz (natD v)), some (.fz (natD u))], true, _, rfl, rfl, fun z => Bool.noConfusion z, fun _ => ⟨.val (.fz (.bl (barAt rs u))), [some (.fz (dunD rs k)), some (.fz (natD v)), some (.fz (natD u))], _, _, ?_, rfl, hb, ⟨_, rfl⟩⟩⟩
    simp only [okb, badb, gdt, sl0, slS, eSlot_e, eSlotK_some, eLit_e, opd_val, opd_sl, vw_val, vw_sl, er_fz, er_ls, two_e, twoK_e, twoL_e, twoM_e, valK_e, tru_e, truK_e, truM_e, blK_e, boF_e, boK_e, boM_e, boN_tt, boN_tf, boN_ft, boN_ff, notF_e, notK_e, iteF_e, iteK_t, iteK_f, negF_e, negK_e, negM_e, nilA_e, consA_e, consA1_e, consA2_e, consA3_e, kept_t, kept_f, keptK_e, settle_val, settle_sl, frzSlot_fz, frzSlot_ls, tupF_e, lstF_e, tupK_e, dsK_e, datas_nil, datas_cons, vws_nil, vws_cons, vwsK_e, biF_e, biK_e, biM_e, rngF_e, rngK_e, rngM_e, itsK_e, callF_e, callK_e, callN_none, callN_some, argsOf_none, argsOf_zero, argsOf_succ, argL_e, noneO_e, someO_e, someK_e, someM_e, sliF_e, sliK_e, sliL1_e, sliL2_e, sliM_e, nxS_e, bkS_e, ctS_e, seqS_e, seqK_nx, seqK_rt, seqK_bk, seqK_ct, ifS_e, ifK_t, ifK_f, exS_e, exK_e, retS_e, retK_e, retL_e, retN_e, give_val, give_sl, giveSlot_fz, giveSlot_ls, take_tv, take_ts, take_f, takeK_e, nxK_e, setS_e, setK_e, setL2_e, asgS_e, asgK_e, asgL_e, nameG_e, nilG_e, consG_e, stS_e, stK_e, stL1_e, stL2_e, stL3_e, stM_e, intOf_e, setAt_e, setAtN_e, intAt_e, intAtM_e, augS_e, augK_e, augL2_e, augKey_e, augO_e, augL3_e, augP_e, augN_e, augN1_e, augN2_e, augN3_e, nilL_e, consL_e, consL1_e, consL2_e, consL3_e, parS_e, parK_e, putL_nil, putL_cons, whlK_t, whlK_f, whlL_nx, whlL_ct, whlL_bk, whlL_rt, forK1_e, forK2_nx, forK2_ct, forK2_bk, forK2_rt, forS_e, forK_e, itF_e, itK_e, itL_e, itM_e, items_tup, items_lst, items_str, compF_e, compK2_e, yesT_e, truth_bl, eqS_int, neS_int, ltS_int, gtS_int, leS_int, geS_int, addS_int, subS_int, mulS_int, divS_int, modS_int, intS_int, idx_ls, idx_lst, idx_tup, idxM_e, idxD_e, atI0, atI1, atI2, atI3, slice_tup, slice_lst, ers_nil, ers_cons, ers_map, cat_lst, cat_tup, set_0, set_1, set_2, runK_rt, runK_nx, runL_e, lent_none, lent_some, wipe_n, wipe_c, back_n, back_c, of_some, mthF_e, mthL_e, mthK_e, mthM_e, mthN_e, napp_e, qSlot_e, fzOf_e, rgLF_e, rgLK_e, rgLM_e, putS, Option.map_some, List.set_cons_zero, List.set_cons_succ, List.map_cons, List.map_nil, List.length_cons, List.length_nil, List.length_set, List.mem_cons, List.not_mem_nil, or_false, Nat.reduceAdd, Nat.reduceLT, Nat.reduceEqDiff, List.nil_append, List.cons_append, List.replicate, Nat.reduceSub, not_false_eq_true, decide_true, Bool.and_self, Int.reduceLT, Int.reduceLE, idx_dun0, idx_room (room_get hu), idx_way, eq_bar, barAt_get hu]
  obtain ⟨τ', e, o, rfl⟩ := comp_map (io := []) (vs := [2]) (own := false) (g := nameG [] 2) (c := yesT) (f := two (two (two (two (eSlot 0) (eLit (.int 0)) idxS) (eSlot 2) idxS) (eLit (.int 1)) idxS) (eLit (.str "bar")) eqS) (fun τ => ∃ o, τ = [some (.fz (dunD rs k)), some (.fz (natD v)), o])
    (barV rs) (fun d => ∃ u, u < rs.length ∧ d = natD u) turn (natsD m) [] [some (.fz (dunD rs k)), some (.fz (natD v)), none]
    (fun d hd => by unfold natsD at hd; obtain ⟨u, hu, e⟩ := List.mem_map.mp hd; exact ⟨u, up_lt g hv (hp.subset hu), e.symm⟩) ⟨_, rfl⟩ (by
      unfold natsD
      rw [List.length_map, List.length_nil]
      have : (1000 : Nat) ≤ sizeLine := by decide
      omega)
  rw [bars_map, List.nil_append] at e
  have hz : ([2].all (noOwn [some (.fz (dunD rs k)), some (.fz (natD v)), none]) && [2].all (fun i => decide (i ∉ ([] : List Nat)))) = true := rfl
  have hin : isnotS (.fz (natD v)) (.fz .non) = .ok (.fz (.bl true)) := rfl
  have hany : (m.map (barAt rs)).any id = (up rs v).any (barAt rs) := by
    rw [List.any_map]
    exact hp.any_eq
  simp only [okb, badb, gdt, sl0, slS, eSlot_e, eSlotK_some, eLit_e, opd_val, opd_sl, vw_val, vw_sl, er_fz, er_ls, two_e, twoK_e, twoL_e, twoM_e, valK_e, tru_e, truK_e, truM_e, blK_e, boF_e, boK_e, boM_e, boN_tt, boN_tf, boN_ft, boN_ff, notF_e, notK_e, iteF_e, iteK_t, iteK_f, negF_e, negK_e, negM_e, nilA_e, consA_e, consA1_e, consA2_e, consA3_e, kept_t, kept_f, keptK_e, settle_val, settle_sl, frzSlot_fz, frzSlot_ls, tupF_e, lstF_e, tupK_e, dsK_e, datas_nil, datas_cons, vws_nil, vws_cons, vwsK_e, biF_e, biK_e, biM_e, rngF_e, rngK_e, rngM_e, itsK_e, callF_e, callK_e, callN_none, callN_some, argsOf_none, argsOf_zero, argsOf_succ, argL_e, noneO_e, someO_e, someK_e, someM_e, sliF_e, sliK_e, sliL1_e, sliL2_e, sliM_e, nxS_e, bkS_e, ctS_e, seqS_e, seqK_nx, seqK_rt, seqK_bk, seqK_ct, ifS_e, ifK_t, ifK_f, exS_e, exK_e, retS_e, retK_e, retL_e, retN_e, give_val, give_sl, giveSlot_fz, giveSlot_ls, take_tv, take_ts, take_f, takeK_e, nxK_e, setS_e, setK_e, setL2_e, asgS_e, asgK_e, asgL_e, nameG_e, nilG_e, consG_e, stS_e, stK_e, stL1_e, stL2_e, stL3_e, stM_e, intOf_e, setAt_e, setAtN_e, intAt_e, intAtM_e, augS_e, augK_e, augL2_e, augKey_e, augO_e, augL3_e, augP_e, augN_e, augN1_e, augN2_e, augN3_e, nilL_e, consL_e, consL1_e, consL2_e, consL3_e, parS_e, parK_e, putL_nil, putL_cons, whlK_t, whlK_f, whlL_nx, whlL_ct, whlL_bk, whlL_rt, forK1_e, forK2_nx, forK2_ct, forK2_bk, forK2_rt, forS_e, forK_e, itF_e, itK_e, itL_e, itM_e, items_tup, items_lst, items_str, compF_e, compK2_e, yesT_e, truth_bl, eqS_int, neS_int, ltS_int, gtS_int, leS_int, geS_int, addS_int, subS_int, mulS_int, divS_int, modS_int, intS_int, idx_ls, idx_lst, idx_tup, idxM_e, idxD_e, atI0, atI1, atI2, atI3, slice_tup, slice_lst, ers_nil, ers_cons, ers_map, cat_lst, cat_tup, set_0, set_1, set_2, runK_rt, runK_nx, runL_e, lent_none, lent_some, wipe_n, wipe_c, back_n, back_c, of_some, mthF_e, mthL_e, mthK_e, mthM_e, mthN_e, napp_e, qSlot_e, fzOf_e, rgLF_e, rgLK_e, rgLM_e, putS, Option.map_some, List.set_cons_zero, List.set_cons_succ, List.map_cons, List.map_nil, List.length_cons, List.length_nil, List.length_set, List.mem_cons, List.not_mem_nil, or_false, Nat.reduceAdd, Nat.reduceLT, Nat.reduceEqDiff, List.nil_append, List.cons_append, List.replicate, Nat.reduceSub, not_false_eq_true, decide_true, Bool.and_self, Int.reduceLT, Int.reduceLE, hin, callM_e, hw, compK_e _ _ _ _ _ _ _ _ hz, e, any_bls, hany]
theorem bar_none {rs : List Room} {k : Int} : f_way_has_bar [.fz (dunD rs k), .fz .non] = .ok (.fz (.bl false), .fz .non) := by
  unfold f_way_has_bar g_way_has_bar
  rw [runF_e]
  case h => rfl
  have hin : isnotS (.fz .non) (.fz .non) = .ok (.fz (.bl false)) := rfl
  simp only [okb, badb, gdt, sl0, slS, eSlot_e, eSlotK_some, eLit_e, opd_val, opd_sl, vw_val, vw_sl, er_fz, er_ls, two_e, twoK_e, twoL_e, twoM_e, valK_e, tru_e, truK_e, truM_e, blK_e, boF_e, boK_e, boM_e, boN_tt, boN_tf, boN_ft, boN_ff, notF_e, notK_e, iteF_e, iteK_t, iteK_f, negF_e, negK_e, negM_e, nilA_e, consA_e, consA1_e, consA2_e, consA3_e, kept_t, kept_f, keptK_e, settle_val, settle_sl, frzSlot_fz, frzSlot_ls, tupF_e, lstF_e, tupK_e, dsK_e, datas_nil, datas_cons, vws_nil, vws_cons, vwsK_e, biF_e, biK_e, biM_e, rngF_e, rngK_e, rngM_e, itsK_e, callF_e, callK_e, callN_none, callN_some, argsOf_none, argsOf_zero, argsOf_succ, argL_e, noneO_e, someO_e, someK_e, someM_e, sliF_e, sliK_e, sliL1_e, sliL2_e, sliM_e, nxS_e, bkS_e, ctS_e, seqS_e, seqK_nx, seqK_rt, seqK_bk, seqK_ct, ifS_e, ifK_t, ifK_f, exS_e, exK_e, retS_e, retK_e, retL_e, retN_e, give_val, give_sl, giveSlot_fz, giveSlot_ls, take_tv, take_ts, take_f, takeK_e, nxK_e, setS_e, setK_e, setL2_e, asgS_e, asgK_e, asgL_e, nameG_e, nilG_e, consG_e, stS_e, stK_e, stL1_e, stL2_e, stL3_e, stM_e, intOf_e, setAt_e, setAtN_e, intAt_e, intAtM_e, augS_e, augK_e, augL2_e, augKey_e, augO_e, augL3_e, augP_e, augN_e, augN1_e, augN2_e, augN3_e, nilL_e, consL_e, consL1_e, consL2_e, consL3_e, parS_e, parK_e, putL_nil, putL_cons, whlK_t, whlK_f, whlL_nx, whlL_ct, whlL_bk, whlL_rt, forK1_e, forK2_nx, forK2_ct, forK2_bk, forK2_rt, forS_e, forK_e, itF_e, itK_e, itL_e, itM_e, items_tup, items_lst, items_str, compF_e, compK2_e, yesT_e, truth_bl, eqS_int, neS_int, ltS_int, gtS_int, leS_int, geS_int, addS_int, subS_int, mulS_int, divS_int, modS_int, intS_int, idx_ls, idx_lst, idx_tup, idxM_e, idxD_e, atI0, atI1, atI2, atI3, slice_tup, slice_lst, ers_nil, ers_cons, ers_map, cat_lst, cat_tup, set_0, set_1, set_2, runK_rt, runK_nx, runL_e, lent_none, lent_some, wipe_n, wipe_c, back_n, back_c, of_some, mthF_e, mthL_e, mthK_e, mthM_e, mthN_e, napp_e, qSlot_e, fzOf_e, rgLF_e, rgLK_e, rgLM_e, putS, Option.map_some, List.set_cons_zero, List.set_cons_succ, List.map_cons, List.map_nil, List.length_cons, List.length_nil, List.length_set, List.mem_cons, List.not_mem_nil, or_false, Nat.reduceAdd, Nat.reduceLT, Nat.reduceEqDiff, List.nil_append, List.cons_append, List.replicate, Nat.reduceSub, not_false_eq_true, decide_true, Bool.and_self, Int.reduceLT, Int.reduceLE, hin]
end K15

namespace K15
open PySem PySem.Spec PyProof.Rows L2 Pf
theorem log_small {n : Int} (h0 : 0 < n) (h : n < 1000000000000000001) : n.natAbs.log2 < 9000 := by
  have e : n.natAbs < 2 ^ 9000 := Nat.lt_trans (show n.natAbs < 1000000000000000001 by omega) (by decide +kernel)
  exact (Nat.log2_lt (by omega)).mpr e
theorem nats_of {os : List OV} {l : List Nat} (h : ∀ o ∈ os, ∃ d ∈ natsD l, o = .fz d) : ∃ m : List Nat, os = (natsD m).map OV.fz ∧ ∀ x ∈ m, x ∈ l := by
  induction os with
  | nil => exact ⟨[], rfl, fun x hx => absurd hx (by simp)⟩
  | cons o os ih =>
    obtain ⟨m, e, hm⟩ := ih fun o ho => h o (List.mem_cons_of_mem _ ho)
    obtain ⟨d, hd, rfl⟩ := h o List.mem_cons_self
    unfold natsD at hd
    obtain ⟨u, hu, rfl⟩ := List.mem_map.mp hd
    refine ⟨u :: m, by rw [e]; rfl, fun x hx => ?_⟩
    rcases List.mem_cons.mp hx with rfl | hx
    · exact hu
    · exact hm x hx
theorem lot_spec {ns : List Int} {b : OV} {n : Nat} (hl : ns.length ≤ 63) (hn : n ≤ 1000) (hb : Bag ns b) : ∃ lot b', f__law_any_lot [b, .fz (.int n)] = .ok (.fz (.tup (natsD lot)), b') ∧ Bag ns b' ∧ lot.length ≤ n ∧ ∀ x ∈ lot, x < n := by
  obtain ⟨w, b1, e1, hb1, w0, w1⟩ := take_spec (many := 3) hl (by decide) (by decide) hb
  obtain ⟨m0, s0, p0, rfl, _⟩ := hb
  unfold f__law_any_lot g__law_any_lot
  rw [runF_e]
  case h => rfl
  have turn : ∀ (d : D) (τ : T), (∃ b o, τ = [some b, some (.fz (.int n)), some (.fz (.int w)), o] ∧ Bag ns b) → ∃ τ1 t τ2, nameG [0] 3 d (wipeT τ [3]) = .ok τ1 ∧ tru (two (callF 2 (some 0) f__law_take (consA [0] true (eSlot 0) (consA [0] false (two (eLit (.int 2)) (eSlot 2) addS) nilA))) (eLit (.int 0)) eqS) τ1 = .ok (t, τ2) ∧
      (t = false → (∃ b o, τ2 = [some b, some (.fz (.int n)), some (.fz (.int w)), o] ∧ Bag ns b)) ∧ (t = true → ∃ p τ3 o τ4, eSlot 3 τ2 = .ok (p, τ3) ∧ Pf.take [0] false p τ3 = .ok (o, τ4) ∧ o = .fz d ∧ (∃ b o, τ4 = [some b, some (.fz (.int n)), some (.fz (.int w)), o] ∧ Bag ns b)) := by
    rintro d τ ⟨b, o, rfl, hb⟩
    obtain ⟨x, b', e, hb', _, _⟩ := take_spec (many := 2 + w) hl (by omega) (log_small (by omega) (by omega)) hb
    obtain ⟨m, s, p, rfl, _⟩ := hb
    refine ⟨[some (bagV m s p ns), some (.fz (.int n)), some (.fz (.int w)), some (.fz d)], x == 0, [some b', some (.fz (.int n)), some (.fz (.int w)), some (.fz d)], rfl, ?_, fun _ => ⟨_, _, rfl, hb'⟩, fun _ => ⟨.sl 3, [some b', some (.fz (.int n)), some (.fz (.int w)), some (.fz d)], .fz d, _, rfl, rfl, rfl, _, _, rfl, hb'⟩⟩
    simp only [okb, badb, gdt, sl0, slS, eSlot_e, eSlotK_some, eLit_e, opd_val, opd_sl, vw_val, vw_sl, er_fz, er_ls, two_e, twoK_e, twoL_e, twoM_e, valK_e, tru_e, truK_e, truM_e, blK_e, boF_e, boK_e, boM_e, boN_tt, boN_tf, boN_ft, boN_ff, notF_e, notK_e, iteF_e, iteK_t, iteK_f, negF_e, negK_e, negM_e, nilA_e, consA_e, consA1_e, consA2_e, consA3_e, kept_t, kept_f, keptK_e, settle_val, settle_sl, frzSlot_fz, frzSlot_ls, tupF_e, lstF_e, tupK_e, dsK_e, datas_nil, datas_cons, vws_nil, vws_cons, vwsK_e, biF_e, biK_e, biM_e, rngF_e, rngK_e, rngM_e, itsK_e, callF_e, callK_e, callN_none, callN_some, argsOf_none, argsOf_zero, argsOf_succ, argL_e, noneO_e, someO_e, someK_e, someM_e, sliF_e, sliK_e, sliL1_e, sliL2_e, sliM_e, nxS_e, bkS_e, ctS_e, seqS_e, seqK_nx, seqK_rt, seqK_bk, seqK_ct, ifS_e, ifK_t, ifK_f, exS_e, exK_e, retS_e, retK_e, retL_e, retN_e, give_val, give_sl, giveSlot_fz, giveSlot_ls, take_tv, take_ts, take_f, takeK_e, nxK_e, setS_e, setK_e, setL2_e, asgS_e, asgK_e, asgL_e, nameG_e, nilG_e, consG_e, stS_e, stK_e, stL1_e, stL2_e, stL3_e, stM_e, intOf_e, setAt_e, setAtN_e, intAt_e, intAtM_e, augS_e, augK_e, augL2_e, augKey_e, augO_e, augL3_e, augP_e, augN_e, augN1_e, augN2_e, augN3_e, nilL_e, consL_e, consL1_e, consL2_e, consL3_e, parS_e, parK_e, putL_nil, putL_cons, whlK_t, whlK_f, whlL_nx, whlL_ct, whlL_bk, whlL_rt, forK1_e, forK2_nx, forK2_ct, forK2_bk, forK2_rt, forS_e, forK_e, itF_e, itK_e, itL_e, itM_e, items_tup, items_lst, items_str, compF_e, compK2_e, yesT_e, truth_bl, eqS_int, neS_int, ltS_int, gtS_int, leS_int, geS_int, addS_int, subS_int, mulS_int, divS_int, modS_int, intS_int, idx_ls, idx_lst, idx_tup, idxM_e, idxD_e, atI0, atI1, atI2, atI3, slice_tup, slice_lst, ers_nil, ers_cons, ers_map, cat_lst, cat_tup, set_0, set_1, set_2, runK_rt, runK_nx, runL_e, lent_none, lent_some, wipe_n, wipe_c, back_n, back_c, of_some, mthF_e, mthL_e, mthK_e, mthM_e, mthN_e, napp_e, qSlot_e, fzOf_e, rgLF_e, rgLK_e, rgLM_e, putS, Option.map_some, List.set_cons_zero, List.set_cons_succ, List.map_cons, List.map_nil, List.length_cons, List.length_nil, List.length_set, List.mem_cons, List.not_mem_nil, or_false, Nat.reduceAdd, Nat.reduceLT, Nat.reduceEqDiff, List.nil_append, List.cons_append, List.replicate, Nat.reduceSub, not_false_eq_true, decide_true, Bool.and_self, Int.reduceLT, Int.reduceLE, argL_bag, callM_e, take_eq, e]
  obtain ⟨os, τ', e, ⟨b', o', rfl, hb'⟩, hle, hos⟩ := comp_rel (io := [0]) (vs := [3]) (own := false) (g := nameG [0] 3) (c := tru (two (callF 2 (some 0) f__law_take (consA [0] true (eSlot 0) (consA [0] false (two (eLit (.int 2)) (eSlot 2) addS) nilA))) (eLit (.int 0)) eqS)) (f := eSlot 3)
    (fun τ => ∃ b o, τ = [some b, some (.fz (.int n)), some (.fz (.int w)), o] ∧ Bag ns b) (fun d o => o = .fz d) turn (rangeL 0 n 1) [] [some b1, some (.fz (.int n)), some (.fz (.int w)), none] ⟨b1, none, rfl, hb1⟩ (by
      rw [rangeL_len, List.length_nil]
      have h2 : (2000 : Nat) ≤ sizeLine := by decide
      omega)
  rw [rangeL_len] at hle
  rw [rangeL_nat] at hos
  obtain ⟨lot, rfl, hlot⟩ := nats_of hos
  have hz : ∀ x : OV, ([3].all (noOwn [some x, some (.fz (.int n)), some (.fz (.int w)), none]) && [3].all (fun i => decide (i ∉ [0]))) = true := fun x => rfl
  rw [List.nil_append, take_eq] at e
  refine ⟨lot, b', ?_, hb', by unfold natsD at hle; simpa using hle, fun x hx => List.mem_range.mp (hlot x hx)⟩
  simp only [okb, badb, gdt, sl0, slS, eSlot_e, eSlotK_some, eLit_e, opd_val, opd_sl, vw_val, vw_sl, er_fz, er_ls, two_e, twoK_e, twoL_e, twoM_e, valK_e, tru_e, truK_e, truM_e, blK_e, boF_e, boK_e, boM_e, boN_tt, boN_tf, boN_ft, boN_ff, notF_e, notK_e, iteF_e, iteK_t, iteK_f, negF_e, negK_e, negM_e, nilA_e, consA_e, consA1_e, consA2_e, consA3_e, kept_t, kept_f, keptK_e, settle_val, settle_sl, frzSlot_fz, frzSlot_ls, tupF_e, lstF_e, tupK_e, dsK_e, datas_nil, datas_cons, vws_nil, vws_cons, vwsK_e, biF_e, biK_e, biM_e, rngF_e, rngK_e, rngM_e, itsK_e, callF_e, callK_e, callN_none, callN_some, argsOf_none, argsOf_zero, argsOf_succ, argL_e, noneO_e, someO_e, someK_e, someM_e, sliF_e, sliK_e, sliL1_e, sliL2_e, sliM_e, nxS_e, bkS_e, ctS_e, seqS_e, seqK_nx, seqK_rt, seqK_bk, seqK_ct, ifS_e, ifK_t, ifK_f, exS_e, exK_e, retS_e, retK_e, retL_e, retN_e, give_val, give_sl, giveSlot_fz, giveSlot_ls, take_tv, take_ts, take_f, takeK_e, nxK_e, setS_e, setK_e, setL2_e, asgS_e, asgK_e, asgL_e, nameG_e, nilG_e, consG_e, stS_e, stK_e, stL1_e, stL2_e, stL3_e, stM_e, intOf_e, setAt_e, setAtN_e, intAt_e, intAtM_e, augS_e, augK_e, augL2_e, augKey_e, augO_e, augL3_e, augP_e, augN_e, augN1_e, augN2_e, augN3_e, nilL_e, consL_e, consL1_e, consL2_e, consL3_e, parS_e, parK_e, putL_nil, putL_cons, whlK_t, whlK_f, whlL_nx, whlL_ct, whlL_bk, whlL_rt, forK1_e, forK2_nx, forK2_ct, forK2_bk, forK2_rt, forS_e, forK_e, itF_e, itK_e, itL_e, itM_e, items_tup, items_lst, items_str, compF_e, compK2_e, yesT_e, truth_bl, eqS_int, neS_int, ltS_int, gtS_int, leS_int, geS_int, addS_int, subS_int, mulS_int, divS_int, modS_int, intS_int, idx_ls, idx_lst, idx_tup, idxM_e, idxD_e, atI0, atI1, atI2, atI3, slice_tup, slice_lst, ers_nil, ers_cons, ers_map, cat_lst, cat_tup, set_0, set_1, set_2, runK_rt, runK_nx, runL_e, lent_none, lent_some, wipe_n, wipe_c, back_n, back_c, of_some, mthF_e, mthL_e, mthK_e, mthM_e, mthN_e, napp_e, qSlot_e, fzOf_e, rgLF_e, rgLK_e, rgLM_e, putS, Option.map_some, List.set_cons_zero, List.set_cons_succ, List.map_cons, List.map_nil, List.length_cons, List.length_nil, List.length_set, List.mem_cons, List.not_mem_nil, or_false, Nat.reduceAdd, Nat.reduceLT, Nat.reduceEqDiff, List.nil_append, List.cons_append, List.replicate, Nat.reduceSub, not_false_eq_true, decide_true, Bool.and_self, Int.reduceLT, Int.reduceLE, argL_bag, callM_e, take_eq, e1, range_nat n hn, compK_e _ _ _ _ _ _ _ _ (hz b1), e, tupS_fz]
/-! a mixed list -/
theorem mixed_loop {ns : List Int} {th : Option OV} (hl : ns.length ≤ 63) (l : List Nat) : ∀ (b : OV) (acc : List Nat) (o : Option OV), Bag ns b → acc.length + l.length ≤ 1000 →
    ∃ b' acc' o', forL (nameG [0] 3) (seqS (exS (mthF 2 (consA [0] false (callF 2 (some 0) f__law_take (consA [0] true (eSlot 0) (consA [0] false (two (biF (consA [0] true (eSlot 2) nilA) lenS) (eLit (.int 1)) addS) nilA))) (consA [0] false (eSlot 3) nilA)) insertM)) nxS) (natsD l)
      [some b, th, some (.ls ((natsD acc).map OV.fz)), o] = .ok (.nx, [some b', th, some (.ls ((natsD acc').map OV.fz)), o']) ∧ Bag ns b' ∧ acc'.length = acc.length + l.length ∧ ∀ x ∈ acc', x ∈ acc ∨ x ∈ l := by
  induction l with
  | nil => intro b acc o hb hz; exact ⟨b, acc, o, rfl, hb, rfl, fun x h => .inl h⟩
  | cons v l ih =>
    intro b acc o hb hz
    rw [List.length_cons] at hz
    obtain ⟨x, b1, e, hb1, x0, x1⟩ := take_spec (many := (acc.length : Int) + 1) hl (by omega) (log_small (by omega) (by omega)) hb
    obtain ⟨m, s, p, rfl, _⟩ := hb
    have hi := insert_ok (natsD acc) (natD v) x x0 (by omega) (by unfold natsD; rw [List.length_map]; omega)
    have hna : (natsD acc).take x.toNat ++ [natD v] ++ (natsD acc).drop x.toNat = natsD (acc.take x.toNat ++ [v] ++ acc.drop x.toNat) := by
      unfold natsD
      rw [List.map_append, List.map_append, List.map_take, List.map_drop]
      rfl
    rw [hna] at hi
    obtain ⟨b', acc', o', e2, hb', hl', hm⟩ := ih b1 (acc.take x.toNat ++ [v] ++ acc.drop x.toNat) (some (.fz (natD v))) hb1 (by
      rw [List.length_append, List.length_append, List.length_take, List.length_drop, List.length_singleton]; omega)
    refine ⟨b', acc', o', ?_, hb', ?_, fun y hy => ?_⟩
    · rw [take_eq] at e2
      have hcons : natsD (v :: l) = natD v :: natsD l := rfl
      rw [hcons, forL_cons]
      simp only [okb, badb, gdt, sl0, slS, eSlot_e, eSlotK_some, eLit_e, opd_val, opd_sl, vw_val, vw_sl, er_fz, er_ls, two_e, twoK_e, twoL_e, twoM_e, valK_e, tru_e, truK_e, truM_e, blK_e, boF_e, boK_e, boM_e, boN_tt, boN_tf, boN_ft, boN_ff, notF_e, notK_e, iteF_e, iteK_t, iteK_f, negF_e, negK_e, negM_e, nilA_e, consA_e, consA1_e, consA2_e, consA3_e, kept_t, kept_f, keptK_e, settle_val, settle_sl, frzSlot_fz, frzSlot_ls, tupF_e, lstF_e, tupK_e, dsK_e, datas_nil, datas_cons, vws_nil, vws_cons, vwsK_e, biF_e, biK_e, biM_e, rngF_e, rngK_e, rngM_e, itsK_e, callF_e, callK_e, callN_none, callN_some, argsOf_none, argsOf_zero, argsOf_succ, argL_e, noneO_e, someO_e, someK_e, someM_e, sliF_e, sliK_e, sliL1_e, sliL2_e, sliM_e, nxS_e, bkS_e, ctS_e, seqS_e, seqK_nx, seqK_rt, seqK_bk, seqK_ct, ifS_e, ifK_t, ifK_f, exS_e, exK_e, retS_e, retK_e, retL_e, retN_e, give_val, give_sl, giveSlot_fz, giveSlot_ls, take_tv, take_ts, take_f, takeK_e, nxK_e, setS_e, setK_e, setL2_e, asgS_e, asgK_e, asgL_e, nameG_e, nilG_e, consG_e, stS_e, stK_e, stL1_e, stL2_e, stL3_e, stM_e, intOf_e, setAt_e, setAtN_e, intAt_e, intAtM_e, augS_e, augK_e, augL2_e, augKey_e, augO_e, augL3_e, augP_e, augN_e, augN1_e, augN2_e, augN3_e, nilL_e, consL_e, consL1_e, consL2_e, consL3_e, parS_e, parK_e, putL_nil, putL_cons, whlK_t, whlK_f, whlL_nx, whlL_ct, whlL_bk, whlL_rt, forK1_e, forK2_nx, forK2_ct, forK2_bk, forK2_rt, forS_e, forK_e, itF_e, itK_e, itL_e, itM_e, items_tup, items_lst, items_str, compF_e, compK2_e, yesT_e, truth_bl, eqS_int, neS_int, ltS_int, gtS_int, leS_int, geS_int, addS_int, subS_int, mulS_int, divS_int, modS_int, intS_int, idx_ls, idx_lst, idx_tup, idxM_e, idxD_e, atI0, atI1, atI2, atI3, slice_tup, slice_lst, ers_nil, ers_cons, ers_map, cat_lst, cat_tup, set_0, set_1, set_2, runK_rt, runK_nx, runL_e, lent_none, lent_some, wipe_n, wipe_c, back_n, back_c, of_some, mthF_e, mthL_e, mthK_e, mthM_e, mthN_e, napp_e, qSlot_e, fzOf_e, rgLF_e, rgLK_e, rgLM_e, putS, Option.map_some, List.set_cons_zero, List.set_cons_succ, List.map_cons, List.map_nil, List.length_cons, List.length_nil, List.length_set, List.mem_cons, List.not_mem_nil, or_false, Nat.reduceAdd, Nat.reduceLT, Nat.reduceEqDiff, List.nil_append, List.cons_append, List.replicate, Nat.reduceSub, not_false_eq_true, decide_true, Bool.and_self, Int.reduceLT, Int.reduceLE, len_nats, argL_bag, callM_e, take_eq, e, hi, e2]
    · rw [hl', List.length_append, List.length_append, List.length_take, List.length_drop, List.length_singleton, List.length_cons]
      omega
    · rcases hm y hy with h | h
      · rcases List.mem_append.mp h with h | h
        · rcases List.mem_append.mp h with h | h
          · exact .inl (List.mem_of_mem_take h)
          · have : y = v := by simpa using h
            exact .inr (by rw [this]; exact List.mem_cons_self)
        · exact .inl (List.mem_of_mem_drop h)
      · exact .inr (List.mem_cons_of_mem _ h)
theorem mixed_spec {ns : List Int} {b : OV} {l : List Nat} (hl : ns.length ≤ 63) (hz : l.length ≤ 1000) (hb : Bag ns b) : ∃ m b', f__law_mixed [b, .fz (.lst (natsD l))] = .ok (.ls ((natsD m).map OV.fz), b') ∧ Bag ns b' ∧ m.length = l.length ∧ ∀ x ∈ m, x ∈ l := by
  unfold f__law_mixed g__law_mixed
  rw [runF_e]
  case h => rfl
  obtain ⟨b', m, o', e, hb', hml, hmem⟩ := mixed_loop (th := some (.fz (.lst (natsD l)))) hl l b [] none hb (by rw [List.length_nil]; omega)
  have hnil : (natsD []).map OV.fz = [] := rfl
  rw [hnil] at e
  refine ⟨m, b', ?_, hb', by rw [hml, List.length_nil, Nat.zero_add], fun x hx => (hmem x hx).resolve_left (by simp)⟩
  simp only [okb, badb, gdt, sl0, slS, eSlot_e, eSlotK_some, eLit_e, opd_val, opd_sl, vw_val, vw_sl, er_fz, er_ls, two_e, twoK_e, twoL_e, twoM_e, valK_e, tru_e, truK_e, truM_e, blK_e, boF_e, boK_e, boM_e, boN_tt, boN_tf, boN_ft, boN_ff, notF_e, notK_e, iteF_e, iteK_t, iteK_f, negF_e, negK_e, negM_e, nilA_e, consA_e, consA1_e, consA2_e, consA3_e, kept_t, kept_f, keptK_e, settle_val, settle_sl, frzSlot_fz, frzSlot_ls, tupF_e, lstF_e, tupK_e, dsK_e, datas_nil, datas_cons, vws_nil, vws_cons, vwsK_e, biF_e, biK_e, biM_e, rngF_e, rngK_e, rngM_e, itsK_e, callF_e, callK_e, callN_none, callN_some, argsOf_none, argsOf_zero, argsOf_succ, argL_e, noneO_e, someO_e, someK_e, someM_e, sliF_e, sliK_e, sliL1_e, sliL2_e, sliM_e, nxS_e, bkS_e, ctS_e, seqS_e, seqK_nx, seqK_rt, seqK_bk, seqK_ct, ifS_e, ifK_t, ifK_f, exS_e, exK_e, retS_e, retK_e, retL_e, retN_e, give_val, give_sl, giveSlot_fz, giveSlot_ls, take_tv, take_ts, take_f, takeK_e, nxK_e, setS_e, setK_e, setL2_e, asgS_e, asgK_e, asgL_e, nameG_e, nilG_e, consG_e, stS_e, stK_e, stL1_e, stL2_e, stL3_e, stM_e, intOf_e, setAt_e, setAtN_e, intAt_e, intAtM_e, augS_e, augK_e, augL2_e, augKey_e, augO_e, augL3_e, augP_e, augN_e, augN1_e, augN2_e, augN3_e, nilL_e, consL_e, consL1_e, consL2_e, consL3_e, parS_e, parK_e, putL_nil, putL_cons, whlK_t, whlK_f, whlL_nx, whlL_ct, whlL_bk, whlL_rt, forK1_e, forK2_nx, forK2_ct, forK2_bk, forK2_rt, forS_e, forK_e, itF_e, itK_e, itL_e, itM_e, items_tup, items_lst, items_str, compF_e, compK2_e, yesT_e, truth_bl, eqS_int, neS_int, ltS_int, gtS_int, leS_int, geS_int, addS_int, subS_int, mulS_int, divS_int, modS_int, intS_int, idx_ls, idx_lst, idx_tup, idxM_e, idxD_e, atI0, atI1, atI2, atI3, slice_tup, slice_lst, ers_nil, ers_cons, ers_map, cat_lst, cat_tup, set_0, set_1, set_2, runK_rt, runK_nx, runL_e, lent_none, lent_some, wipe_n, wipe_c, back_n, back_c, of_some, mthF_e, mthL_e, mthK_e, mthM_e, mthN_e, napp_e, qSlot_e, fzOf_e, rgLF_e, rgLK_e, rgLM_e, putS, Option.map_some, List.set_cons_zero, List.set_cons_succ, List.map_cons, List.map_nil, List.length_cons, List.length_nil, List.length_set, List.mem_cons, List.not_mem_nil, or_false, Nat.reduceAdd, Nat.reduceLT, Nat.reduceEqDiff, List.nil_append, List.cons_append, List.replicate, Nat.reduceSub, not_false_eq_true, decide_true, Bool.and_self, Int.reduceLT, Int.reduceLE, size_ok 0 (by decide), e, if_false]
  all_goals rfl
end K15

namespace K15
open PySem PySem.Spec PyProof.Rows L2 Pf
theorem Dun.snoc {rs : List Room} {r : Room} (g : Dun rs) (hp : ∀ p, r.par = some p → p < rs.length) (hw : okWay r.way) (hm : 0 ≤ r.many ∧ r.many ≤ 2) (hl : rs.length ≤ 10) : Dun (rs ++ [r]) := by
  refine ⟨by rw [List.length_append]; have := g.pos; omega, by rw [List.length_append, List.length_singleton]; omega, fun v x hx p hpar => ?_, fun x hx => ?_, fun x hx => ?_⟩
  · by_cases hv : v < rs.length
    · rw [List.getElem?_append_left hv] at hx
      exact g.up v x hx p hpar
    · rw [List.getElem?_append_right (by omega)] at hx
      have e : v - rs.length = 0 := by
        by_cases z : v - rs.length = 0
        · exact z
        · rw [List.getElem?_eq_none (by rw [List.length_singleton]; omega)] at hx; cases hx
      rw [e] at hx
      cases hx
      have := hp p hpar
      omega
  · rcases List.mem_append.mp hx with h | h
    · exact g.way x h
    · have : x = r := by simpa using h
      rw [this]; exact hw
  · rcases List.mem_append.mp hx with h | h
    · exact g.many x h
    · have : x = r := by simpa using h
      rw [this]; exact hm
theorem Dun.one {c : Int} (hc : 0 ≤ c ∧ c ≤ 2) : Dun [⟨none, .non, c⟩] := by
  refine ⟨by simp, by simp, fun v x hx p hpar => ?_, fun x hx => ?_, fun x hx => ?_⟩
  · have hv : v = 0 := by
      by_cases z : v = 0
      · exact z
      · rw [List.getElem?_eq_none (by rw [List.length_singleton]; omega)] at hx; cases hx
    subst hv
    cases hx
    cases hpar
  · have : x = ⟨none, .non, c⟩ := by simpa using hx
    rw [this]; exact .inl rfl
  · have : x = ⟨none, .non, c⟩ := by simpa using hx
    rw [this]; exact hc
theorem Dun.first {rs : List Room} (g : Dun rs) : Dun (⟨none, .non, 1⟩ :: rs.drop 1) := by
  have hl : (⟨none, .non, 1⟩ :: rs.drop 1 : List Room).length = rs.length := by rw [List.length_cons, List.length_drop]; have := g.pos; omega
  refine ⟨by rw [hl]; exact g.pos, by rw [hl]; exact g.len, fun v x hx p hpar => ?_, fun x hx => ?_, fun x hx => ?_⟩
  · cases v with
    | zero => cases hx; cases hpar
    | succ v =>
      rw [List.getElem?_cons_succ, List.getElem?_drop] at hx
      exact g.up (v + 1) x (by rw [show v + 1 = 1 + v by omega]; exact hx) p hpar
  · rcases List.mem_cons.mp hx with rfl | h
    · exact .inl rfl
    · exact g.way x (List.mem_of_mem_drop h)
  · rcases List.mem_cons.mp hx with rfl | h
    · exact ⟨by decide, by decide⟩
    · exact g.many x (List.mem_of_mem_drop h)
def roomsD (rs : List Room) : List D := rs.map roomD
theorem room_loop {ns : List Int} {most o6 o7 o8 o9 o10 : Option OV} {hbs : Bool} (hl : ns.length ≤ 63) (m : Nat) : ∀ (b : OV) (rs : List Room) (o4 o5 : Option OV), Bag ns b → Dun rs → rs.length + m ≤ 11 →
    ∃ b' rs' o4' o5', forL (nameG [0] 4) (seqS (setS [0] 5 false (callF 2 (some 0) f__law_some (consA [0] true (eSlot 0) (consA [0] false (lstF (consA [0] false (eLit (.str "open")) (consA [0] false (eLit (.str "lock")) (consA [0] false (eLit (.str "lock")) (consA [0] false (iteF (eSlot 3) (eLit (.str "bar")) (eLit (.str "lock"))) nilA))))) nilA))))
  (seqS (exS (mthF 2 (consA [0] false (tupF (consA [0] false (callF 2 (some 0) f__law_some (consA [0] true (eSlot 0) (consA [0] false (lstF (consA [0] false (two (eSlot 4) (eLit (.int 1)) subS) (consA [0] false (callF 2 (some 0) f__law_take (consA [0] true (eSlot 0) (consA [0] false (eSlot 4) nilA))) nilA))) nilA))) (consA [0] false (eSlot 5) (consA [0] false (callF 2 (some 0) f__law_some (consA [0] true (eSlot 0) (consA [0] false (lstF (consA [0] false (eLit (.int 1)) (consA [0] false (eLit (.int 0)) (consA [0] false (eLit (.int 1)) (consA [0] false (eLit (.int 1)) (consA [0] false (eLit (.int 2)) nilA)))))) nilA))) nilA)))) nilA) appendM))
  nxS)) (natsD (List.range' rs.length m)) [some b, most, some (.ls ((roomsD rs).map OV.fz)), some (.fz (.bl hbs)), o4, o5, o6, o7, o8, o9, o10] =
      .ok (.nx, [some b', most, some (.ls ((roomsD rs').map OV.fz)), some (.fz (.bl hbs)), o4', o5', o6, o7, o8, o9, o10]) ∧ Bag ns b' ∧ Dun rs' ∧ rs'.length = rs.length + m := by
  induction m with
  | zero => intro b rs o4 o5 hb g hz; exact ⟨b, rs, o4, o5, rfl, hb, g, rfl⟩
  | succ m ih =>
    intro b rs o4 o5 hb g hz
    have hpos := g.pos
    have hways : ∀ d ∈ [D.str "open", D.str "lock", D.str "lock", if hbs then D.str "bar" else D.str "lock"], okWay d := fun d hd => by
      simp only [List.mem_cons, List.not_mem_nil, or_false] at hd
      rcases hd with e | e | e | e
      · exact .inr (.inl e)
      · exact .inr (.inr (.inl e))
      · exact .inr (.inr (.inl e))
      · cases hbs
        · exact .inr (.inr (.inl e))
        · exact .inr (.inr (.inr e))
    obtain ⟨w, b1, e1, hb1, hw⟩ := some_spec (ds := [D.str "open", D.str "lock", D.str "lock", if hbs then D.str "bar" else D.str "lock"]) hl hb (by simp) (by simp)
    obtain ⟨v1, b2, e2, hb2, v10, v11⟩ := take_spec (many := rs.length) hl (by omega) (log_small (by omega) (by omega)) hb1
    obtain ⟨pd, b3, e3, hb3, hpd⟩ := some_spec (ds := [D.int ((rs.length : Int) - 1), D.int v1]) hl hb2 (by simp) (by simp)
    obtain ⟨cd, b4, e4, hb4, hcd⟩ := some_spec (ds := [D.int 1, D.int 0, D.int 1, D.int 1, D.int 2]) hl hb3 (by simp) (by simp)
    have hp : ∃ p : Nat, pd = natD p ∧ p < rs.length := by
      simp only [List.mem_cons, List.not_mem_nil, or_false] at hpd
      rcases hpd with e | e
      · exact ⟨rs.length - 1, by rw [e]; unfold natD; congr 1; omega, by omega⟩
      · exact ⟨v1.toNat, by rw [e]; unfold natD; congr 1; omega, by omega⟩
    obtain ⟨p, rfl, hp⟩ := hp
    have hc : ∃ c : Int, cd = .int c ∧ 0 ≤ c ∧ c ≤ 2 := by
      simp only [List.mem_cons, List.not_mem_nil, or_false] at hcd
      rcases hcd with e | e | e | e | e <;> exact ⟨_, e, by omega, by omega⟩
    obtain ⟨c, rfl, hc⟩ := hc
    have g' : Dun (rs ++ [⟨some p, w, c⟩]) := g.snoc (fun q hq => by cases hq; exact hp) (hways w hw) hc (by omega)
    obtain ⟨b', rs', o4', o5', e5, hb', gg, hlen⟩ := ih b4 (rs ++ [⟨some p, w, c⟩]) (some (.fz (natD rs.length))) (some (.fz w)) hb4 g' (by rw [List.length_append, List.length_singleton]; omega)
    rw [List.length_append, List.length_singleton] at e5 hlen
    refine ⟨b', rs', o4', o5', ?_, hb', gg, by omega⟩
    have ha := append_ok (roomsD rs) (roomD ⟨some p, w, c⟩) (by unfold roomsD; rw [List.length_map]; omega)
    have hra : roomsD rs ++ [roomD ⟨some p, w, c⟩] = roomsD (rs ++ [⟨some p, w, c⟩]) := by unfold roomsD; rw [List.map_append]; rfl
    have hrd : roomD ⟨some p, w, c⟩ = .tup [natD p, w, .int c] := rfl
    rw [hra, hrd] at ha
    obtain ⟨m0, s0, p0, rfl, _⟩ := hb
    obtain ⟨m1, s1, p1, rfl, _⟩ := hb1
    obtain ⟨m2, s2, p2, rfl, _⟩ := hb2
    obtain ⟨m3, s3, p3, rfl, _⟩ := hb3
    have hcons : natsD (List.range' rs.length (m + 1)) = natD rs.length :: natsD (List.range' (rs.length + 1) m) := by rw [List.range'_succ]; rfl
    have hsub : subS (.fz (natD rs.length)) (.fz (.int 1)) = .ok (.fz (.int ((rs.length : Int) - 1))) := rfl
    have e2' : takeV [bagV m1 s1 p1 ns, .fz (natD rs.length)] = .ok (.fz (.int v1), bagV m2 s2 p2 ns) := e2
    rw [hcons, forL_cons]
    rw [take_eq, some_eq] at e5 ⊢
    cases hbs with
    | true =>
      simp only [if_true] at e1
      simp only [okb, badb, gdt, sl0, slS, eSlot_e, eSlotK_some, eLit_e, opd_val, opd_sl, vw_val, vw_sl, er_fz, er_ls, two_e, twoK_e, twoL_e, twoM_e, valK_e, tru_e, truK_e, truM_e, blK_e, boF_e, boK_e, boM_e, boN_tt, boN_tf, boN_ft, boN_ff, notF_e, notK_e, iteF_e, iteK_t, iteK_f, negF_e, negK_e, negM_e, nilA_e, consA_e, consA1_e, consA2_e, consA3_e, kept_t, kept_f, keptK_e, settle_val, settle_sl, frzSlot_fz, frzSlot_ls, tupF_e, lstF_e, tupK_e, dsK_e, datas_nil, datas_cons, vws_nil, vws_cons, vwsK_e, biF_e, biK_e, biM_e, rngF_e, rngK_e, rngM_e, itsK_e, callF_e, callK_e, callN_none, callN_some, argsOf_none, argsOf_zero, argsOf_succ, argL_e, noneO_e, someO_e, someK_e, someM_e, sliF_e, sliK_e, sliL1_e, sliL2_e, sliM_e, nxS_e, bkS_e, ctS_e, seqS_e, seqK_nx, seqK_rt, seqK_bk, seqK_ct, ifS_e, ifK_t, ifK_f, exS_e, exK_e, retS_e, retK_e, retL_e, retN_e, give_val, give_sl, giveSlot_fz, giveSlot_ls, take_tv, take_ts, take_f, takeK_e, nxK_e, setS_e, setK_e, setL2_e, asgS_e, asgK_e, asgL_e, nameG_e, nilG_e, consG_e, stS_e, stK_e, stL1_e, stL2_e, stL3_e, stM_e, intOf_e, setAt_e, setAtN_e, intAt_e, intAtM_e, augS_e, augK_e, augL2_e, augKey_e, augO_e, augL3_e, augP_e, augN_e, augN1_e, augN2_e, augN3_e, nilL_e, consL_e, consL1_e, consL2_e, consL3_e, parS_e, parK_e, putL_nil, putL_cons, whlK_t, whlK_f, whlL_nx, whlL_ct, whlL_bk, whlL_rt, forK1_e, forK2_nx, forK2_ct, forK2_bk, forK2_rt, forS_e, forK_e, itF_e, itK_e, itL_e, itM_e, items_tup, items_lst, items_str, compF_e, compK2_e, yesT_e, truth_bl, eqS_int, neS_int, ltS_int, gtS_int, leS_int, geS_int, addS_int, subS_int, mulS_int, divS_int, modS_int, intS_int, idx_ls, idx_lst, idx_tup, idxM_e, idxD_e, atI0, atI1, atI2, atI3, slice_tup, slice_lst, ers_nil, ers_cons, ers_map, cat_lst, cat_tup, set_0, set_1, set_2, runK_rt, runK_nx, runL_e, lent_none, lent_some, wipe_n, wipe_c, back_n, back_c, of_some, mthF_e, mthL_e, mthK_e, mthM_e, mthN_e, napp_e, qSlot_e, fzOf_e, rgLF_e, rgLK_e, rgLM_e, putS, Option.map_some, List.set_cons_zero, List.set_cons_succ, List.map_cons, List.map_nil, List.length_cons, List.length_nil, List.length_set, List.mem_cons, List.not_mem_nil, or_false, Nat.reduceAdd, Nat.reduceLT, Nat.reduceEqDiff, List.nil_append, List.cons_append, List.replicate, Nat.reduceSub, not_false_eq_true, decide_true, Bool.and_self, Int.reduceLT, Int.reduceLE, argL_bag, callM_e, e1, e2', e3, e4, hsub, ha, size_ok 4 (by decide), size_ok 2 (by decide), size_ok 3 (by decide), size_ok 5 (by decide), e5]
    | false =>
      simp only [if_false, Bool.false_eq_true] at e1
      simp only [okb, badb, gdt, sl0, slS, eSlot_e, eSlotK_some, eLit_e, opd_val, opd_sl, vw_val, vw_sl, er_fz, er_ls, two_e, twoK_e, twoL_e, twoM_e, valK_e, tru_e, truK_e, truM_e, blK_e, boF_e, boK_e, boM_e, boN_tt, boN_tf, boN_ft, boN_ff, notF_e, notK_e, iteF_e, iteK_t, iteK_f, negF_e, negK_e, negM_e, nilA_e, consA_e, consA1_e, consA2_e, consA3_e, kept_t, kept_f, keptK_e, settle_val, settle_sl, frzSlot_fz, frzSlot_ls, tupF_e, lstF_e, tupK_e, dsK_e, datas_nil, datas_cons, vws_nil, vws_cons, vwsK_e, biF_e, biK_e, biM_e, rngF_e, rngK_e, rngM_e, itsK_e, callF_e, callK_e, callN_none, callN_some, argsOf_none, argsOf_zero, argsOf_succ, argL_e, noneO_e, someO_e, someK_e, someM_e, sliF_e, sliK_e, sliL1_e, sliL2_e, sliM_e, nxS_e, bkS_e, ctS_e, seqS_e, seqK_nx, seqK_rt, seqK_bk, seqK_ct, ifS_e, ifK_t, ifK_f, exS_e, exK_e, retS_e, retK_e, retL_e, retN_e, give_val, give_sl, giveSlot_fz, giveSlot_ls, take_tv, take_ts, take_f, takeK_e, nxK_e, setS_e, setK_e, setL2_e, asgS_e, asgK_e, asgL_e, nameG_e, nilG_e, consG_e, stS_e, stK_e, stL1_e, stL2_e, stL3_e, stM_e, intOf_e, setAt_e, setAtN_e, intAt_e, intAtM_e, augS_e, augK_e, augL2_e, augKey_e, augO_e, augL3_e, augP_e, augN_e, augN1_e, augN2_e, augN3_e, nilL_e, consL_e, consL1_e, consL2_e, consL3_e, parS_e, parK_e, putL_nil, putL_cons, whlK_t, whlK_f, whlL_nx, whlL_ct, whlL_bk, whlL_rt, forK1_e, forK2_nx, forK2_ct, forK2_bk, forK2_rt, forS_e, forK_e, itF_e, itK_e, itL_e, itM_e, items_tup, items_lst, items_str, compF_e, compK2_e, yesT_e, truth_bl, eqS_int, neS_int, ltS_int, gtS_int, leS_int, geS_int, addS_int, subS_int, mulS_int, divS_int, modS_int, intS_int, idx_ls, idx_lst, idx_tup, idxM_e, idxD_e, atI0, atI1, atI2, atI3, slice_tup, slice_lst, ers_nil, ers_cons, ers_map, cat_lst, cat_tup, set_0, set_1, set_2, runK_rt, runK_nx, runL_e, lent_none, lent_some, wipe_n, wipe_c, back_n, back_c, of_some, mthF_e, mthL_e, mthK_e, mthM_e, mthN_e, napp_e, qSlot_e, fzOf_e, rgLF_e, rgLK_e, rgLM_e, putS, Option.map_some, List.set_cons_zero, List.set_cons_succ, List.map_cons, List.map_nil, List.length_cons, List.length_nil, List.length_set, List.mem_cons, List.not_mem_nil, or_false, Nat.reduceAdd, Nat.reduceLT, Nat.reduceEqDiff, List.nil_append, List.cons_append, List.replicate, Nat.reduceSub, not_false_eq_true, decide_true, Bool.and_self, Int.reduceLT, Int.reduceLE, argL_bag, callM_e, e1, e2', e3, e4, hsub, ha, size_ok 4 (by decide), size_ok 2 (by decide), size_ok 3 (by decide), size_ok 5 (by decide), e5]
end K15

namespace K15
open PySem PySem.Spec PyProof.Rows L2 Pf
theorem compL_t {io vs : List Nat} {own : Bool} {g : FG} {c : T → Res (Bool × T)} {f : FP} {d : D} {ds : List D} {acc : List OV} {τ τ1 τ2 τ3 τ4 : T} {p : Pre} {o : OV} (e1 : g d (wipeT τ vs) = .ok τ1) (e2 : c τ1 = .ok (true, τ2)) (e3 : f τ2 = .ok (p, τ3)) (e4 : Pf.take io own p τ3 = .ok (o, τ4)) (hz : acc.length < sizeLine) :
    compL io vs own g c f (d :: ds) acc τ = compL io vs own g c f ds (acc ++ [o]) τ4 := by
  rw [compL, e1, Res.ok_bind, e2, Res.ok_bind]
  show (f τ2).bind _ = _
  rw [e3, Res.ok_bind]
  show (Pf.take io own p τ3).bind _ = _
  rw [e4, Res.ok_bind]
  show (if acc.length < sizeLine then _ else Res.bad) = _
  rw [if_pos hz]
theorem compL_f {io vs : List Nat} {own : Bool} {g : FG} {c : T → Res (Bool × T)} {f : FP} {d : D} {ds : List D} {acc : List OV} {τ τ1 τ2 : T} (e1 : g d (wipeT τ vs) = .ok τ1) (e2 : c τ1 = .ok (false, τ2)) : compL io vs own g c f (d :: ds) acc τ = compL io vs own g c f ds acc τ2 := by
  rw [compL, e1, Res.ok_bind, e2, Res.ok_bind]
  rfl
theorem eq_str (d : D) (x : Str) : eqS (.fz d) (.fz (.str x)) = .ok (.fz (.bl (D.eqv d (.str x)))) := by
  show gd (depOk d (.str x)) (OV.fz (.bl (D.eqv d (.str x)))) = _
  have e : depOk d (.str x) = true := decide_eq_true (by rw [dep_str]; simp)
  rw [e]
  rfl
theorem idx_many (r : Room) : idxS (.fz (roomD r)) (.fz (.int 2)) = .ok (.fz (.int r.many)) := by
  unfold roomD
  rw [idx_tup, atI2]
  rfl
theorem all_eq {os : List OV} {d : D} (h : ∀ o ∈ os, o = .fz d) : os = (List.replicate os.length d).map OV.fz := by
  induction os with
  | nil => rfl
  | cons o os ih =>
    rw [List.length_cons, List.replicate_succ, List.map_cons, ← ih fun x hx => h x (List.mem_cons_of_mem _ hx), h o List.mem_cons_self]
theorem len_fzlst (ds : List D) : lenS [.fz (.lst ds)] = .ok (.fz (.int ds.length)) := (rfl)
/-- the state while the rooms are counted -/
def Cs (b most rooms hb o4 o5 o6 o7 o8 o9 : Option OV) (τ : T) : Prop := ∃ o, τ = [b, most, rooms, hb, o4, o5, o6, o7, o8, o9, o]
theorem count_comp {rs : List Room} {x : Str} {b most hb o4 o5 o6 o7 o8 o9 o10 : Option OV} (g : Dun rs) : ∃ n τ', compL [0] [10] false (nameG [0] 10) (tru (two (two (eSlot 10) (eLit (.int 1)) idxS) (eLit (.str x)) eqS)) (eLit (.int 1)) (roomsD rs) [] [b, most, some (.fz (.lst (roomsD rs))), hb, o4, o5, o6, o7, o8, o9, o10] = .ok ((List.replicate n (D.int 1)).map OV.fz, τ') ∧
    Cs b most (some (.fz (.lst (roomsD rs)))) hb o4 o5 o6 o7 o8 o9 τ' ∧ n ≤ rs.length := by
  have hl := g.len
  have turn : ∀ (d : D) (τ : T), ((∃ r, d = roomD r) ∧ True) ∧ Cs b most (some (.fz (.lst (roomsD rs)))) hb o4 o5 o6 o7 o8 o9 τ → ∃ τ1 t τ2, nameG [0] 10 d (wipeT τ [10]) = .ok τ1 ∧ tru (two (two (eSlot 10) (eLit (.int 1)) idxS) (eLit (.str x)) eqS) τ1 = .ok (t, τ2) ∧ Cs b most (some (.fz (.lst (roomsD rs)))) hb o4 o5 o6 o7 o8 o9 τ2 ∧
      (t = true → ∃ p τ3 o τ4, eLit (.int 1) τ2 = .ok (p, τ3) ∧ Pf.take [0] false p τ3 = .ok (o, τ4) ∧ o = .fz (.int 1) ∧ Cs b most (some (.fz (.lst (roomsD rs)))) hb o4 o5 o6 o7 o8 o9 τ4) := by
    rintro d τ ⟨⟨⟨r, rfl⟩, _⟩, o, rfl⟩
    refine ⟨[b, most, some (.fz (.lst (roomsD rs))), hb, o4, o5, o6, o7, o8, o9, some (.fz (roomD r))], D.eqv r.way (.str x), [b, most, some (.fz (.lst (roomsD rs))), hb, o4, o5, o6, o7, o8, o9, some (.fz (roomD r))], rfl, ?_, ⟨_, rfl⟩, fun _ => ⟨_, _, _, _, rfl, rfl, rfl, ⟨_, rfl⟩⟩⟩
    simp only [okb, badb, gdt, sl0, slS, eSlot_e, eSlotK_some, eLit_e, opd_val, opd_sl, vw_val, vw_sl, er_fz, er_ls, two_e, twoK_e, twoL_e, twoM_e, valK_e, tru_e, truK_e, truM_e, blK_e, boF_e, boK_e, boM_e, boN_tt, boN_tf, boN_ft, boN_ff, notF_e, notK_e, iteF_e, iteK_t, iteK_f, negF_e, negK_e, negM_e, nilA_e, consA_e, consA1_e, consA2_e, consA3_e, kept_t, kept_f, keptK_e, settle_val, settle_sl, frzSlot_fz, frzSlot_ls, tupF_e, lstF_e, tupK_e, dsK_e, datas_nil, datas_cons, vws_nil, vws_cons, vwsK_e, biF_e, biK_e, biM_e, rngF_e, rngK_e, rngM_e, itsK_e, callF_e, callK_e, callN_none, callN_some, argsOf_none, argsOf_zero, argsOf_succ, argL_e, noneO_e, someO_e, someK_e, someM_e, sliF_e, sliK_e, sliL1_e, sliL2_e, sliM_e, nxS_e, bkS_e, ctS_e, seqS_e, seqK_nx, seqK_rt, seqK_bk, seqK_ct, ifS_e, ifK_t, ifK_f, exS_e, exK_e, retS_e, retK_e, retL_e, retN_e, give_val, give_sl, giveSlot_fz, giveSlot_ls, take_tv, take_ts, take_f, takeK_e, nxK_e, setS_e, setK_e, setL2_e, asgS_e, asgK_e, asgL_e, nameG_e, nilG_e, consG_e, stS_e, stK_e, stL1_e, stL2_e, stL3_e, stM_e, intOf_e, setAt_e, setAtN_e, intAt_e, intAtM_e, augS_e, augK_e, augL2_e, augKey_e, augO_e, augL3_e, augP_e, augN_e, augN1_e, augN2_e, augN3_e, nilL_e, consL_e, consL1_e, consL2_e, consL3_e, parS_e, parK_e, putL_nil, putL_cons, whlK_t, whlK_f, whlL_nx, whlL_ct, whlL_bk, whlL_rt, forK1_e, forK2_nx, forK2_ct, forK2_bk, forK2_rt, forS_e, forK_e, itF_e, itK_e, itL_e, itM_e, items_tup, items_lst, items_str, compF_e, compK2_e, yesT_e, truth_bl, eqS_int, neS_int, ltS_int, gtS_int, leS_int, geS_int, addS_int, subS_int, mulS_int, divS_int, modS_int, intS_int, idx_ls, idx_lst, idx_tup, idxM_e, idxD_e, atI0, atI1, atI2, atI3, slice_tup, slice_lst, ers_nil, ers_cons, ers_map, cat_lst, cat_tup, set_0, set_1, set_2, runK_rt, runK_nx, runL_e, lent_none, lent_some, wipe_n, wipe_c, back_n, back_c, of_some, mthF_e, mthL_e, mthK_e, mthM_e, mthN_e, napp_e, qSlot_e, fzOf_e, rgLF_e, rgLK_e, rgLM_e, putS, Option.map_some, List.set_cons_zero, List.set_cons_succ, List.map_cons, List.map_nil, List.length_cons, List.length_nil, List.length_set, List.mem_cons, List.not_mem_nil, or_false, Nat.reduceAdd, Nat.reduceLT, Nat.reduceEqDiff, List.nil_append, List.cons_append, List.replicate, Nat.reduceSub, not_false_eq_true, decide_true, Bool.and_self, Int.reduceLT, Int.reduceLE, idx_way, eq_str]
  -- each room by itself
  have run : ∀ (l : List Room) (acc : List OV) (τ : T), Cs b most (some (.fz (.lst (roomsD rs)))) hb o4 o5 o6 o7 o8 o9 τ → acc.length + l.length ≤ sizeLine → ∃ n τ', compL [0] [10] false (nameG [0] 10) (tru (two (two (eSlot 10) (eLit (.int 1)) idxS) (eLit (.str x)) eqS)) (eLit (.int 1)) (roomsD l) acc τ = .ok (acc ++ (List.replicate n (D.int 1)).map OV.fz, τ') ∧ Cs b most (some (.fz (.lst (roomsD rs)))) hb o4 o5 o6 o7 o8 o9 τ' ∧ n ≤ l.length := by
    intro l
    induction l with
    | nil => intro acc τ hc hz; exact ⟨0, τ, by show Res.ok (acc, τ) = _; simp, hc, Nat.le_refl _⟩
    | cons r l ih =>
      intro acc τ hc hz
      rw [List.length_cons] at hz
      obtain ⟨τ1, t, τ2, e1, e2, hc2, ht⟩ := turn (roomD r) τ ⟨⟨⟨r, rfl⟩, trivial⟩, hc⟩
      have hcons : roomsD (r :: l) = roomD r :: roomsD l := rfl
      rw [hcons]
      cases t with
      | false =>
        obtain ⟨n, τ', e3, hc3, hn⟩ := ih acc τ2 hc2 (by omega)
        refine ⟨n, τ', ?_, hc3, by rw [List.length_cons]; omega⟩
        rw [compL_f e1 e2]
        exact e3
      | true =>
        obtain ⟨p, τ3, o, τ4, e3, e4, rfl, hc4⟩ := ht rfl
        obtain ⟨n, τ', e5, hc5, hn⟩ := ih (acc ++ [.fz (.int 1)]) τ4 hc4 (by rw [List.length_append, List.length_singleton]; omega)
        refine ⟨n + 1, τ', ?_, hc5, by rw [List.length_cons]; omega⟩
        rw [compL_t e1 e2 e3 e4 (by omega), e5, List.append_assoc]
        rfl
  obtain ⟨n, τ', e, hc, hn⟩ := run rs [] [b, most, some (.fz (.lst (roomsD rs))), hb, o4, o5, o6, o7, o8, o9, o10] ⟨_, rfl⟩ (by
    rw [List.length_nil]
    have : (1000 : Nat) ≤ sizeLine := by decide
    omega)
  exact ⟨n, τ', by rw [e, List.nil_append], hc, hn⟩
theorem many_comp {rs : List Room} {b most hb o4 o5 o6 o7 o8 o9 o10 : Option OV} (g : Dun rs) : ∃ τ', compL [0] [10] false (nameG [0] 10) yesT (two (eSlot 10) (eLit (.int 2)) idxS) (roomsD rs) [] [b, most, some (.fz (.lst (roomsD rs))), hb, o4, o5, o6, o7, o8, o9, o10] = .ok (((rs.map fun r => r.many).map D.int).map OV.fz, τ') ∧
    Cs b most (some (.fz (.lst (roomsD rs)))) hb o4 o5 o6 o7 o8 o9 τ' := by
  have hl := g.len
  have run : ∀ (l : List Room) (acc : List OV) (τ : T), Cs b most (some (.fz (.lst (roomsD rs)))) hb o4 o5 o6 o7 o8 o9 τ → acc.length + l.length ≤ sizeLine → ∃ τ', compL [0] [10] false (nameG [0] 10) yesT (two (eSlot 10) (eLit (.int 2)) idxS) (roomsD l) acc τ = .ok (acc ++ ((l.map fun r => r.many).map D.int).map OV.fz, τ') ∧ Cs b most (some (.fz (.lst (roomsD rs)))) hb o4 o5 o6 o7 o8 o9 τ' := by
    intro l
    induction l with
    | nil => intro acc τ hc hz; exact ⟨τ, by show Res.ok (acc, τ) = _; simp, hc⟩
    | cons r l ih =>
      intro acc τ hc hz
      rw [List.length_cons] at hz
      obtain ⟨o, rfl⟩ := hc
      obtain ⟨τ', e5, hc5⟩ := ih (acc ++ [.fz (.int r.many)]) [b, most, some (.fz (.lst (roomsD rs))), hb, o4, o5, o6, o7, o8, o9, some (.fz (roomD r))] ⟨_, rfl⟩ (by rw [List.length_append, List.length_singleton]; omega)
      refine ⟨τ', ?_, hc5⟩
      have hcons : roomsD (r :: l) = roomD r :: roomsD l := rfl
      have e1 : nameG [0] 10 (roomD r) (wipeT [b, most, some (.fz (.lst (roomsD rs))), hb, o4, o5, o6, o7, o8, o9, o] [10]) = .ok [b, most, some (.fz (.lst (roomsD rs))), hb, o4, o5, o6, o7, o8, o9, some (.fz (roomD r))] := rfl
      have e2 : two (eSlot 10) (eLit (.int 2)) idxS [b, most, some (.fz (.lst (roomsD rs))), hb, o4, o5, o6, o7, o8, o9, some (.fz (roomD r))] = .ok (.val (.fz (.int r.many)), [b, most, some (.fz (.lst (roomsD rs))), hb, o4, o5, o6, o7, o8, o9, some (.fz (roomD r))]) := by
        simp only [okb, badb, gdt, sl0, slS, eSlot_e, eSlotK_some, eLit_e, opd_val, opd_sl, vw_val, vw_sl, er_fz, er_ls, two_e, twoK_e, twoL_e, twoM_e, valK_e, tru_e, truK_e, truM_e, blK_e, boF_e, boK_e, boM_e, boN_tt, boN_tf, boN_ft, boN_ff, notF_e, notK_e, iteF_e, iteK_t, iteK_f, negF_e, negK_e, negM_e, nilA_e, consA_e, consA1_e, consA2_e, consA3_e, kept_t, kept_f, keptK_e, settle_val, settle_sl, frzSlot_fz, frzSlot_ls, tupF_e, lstF_e, tupK_e, dsK_e, datas_nil, datas_cons, vws_nil, vws_cons, vwsK_e, biF_e, biK_e, biM_e, rngF_e, rngK_e, rngM_e, itsK_e, callF_e, callK_e, callN_none, callN_some, argsOf_none, argsOf_zero, argsOf_succ, argL_e, noneO_e, someO_e, someK_e, someM_e, sliF_e, sliK_e, sliL1_e, sliL2_e, sliM_e, nxS_e, bkS_e, ctS_e, seqS_e, seqK_nx, seqK_rt, seqK_bk, seqK_ct, ifS_e, ifK_t, ifK_f, exS_e, exK_e, retS_e, retK_e, retL_e, retN_e, give_val, give_sl, giveSlot_fz, giveSlot_ls, take_tv, take_ts, take_f, takeK_e, nxK_e, setS_e, setK_e, setL2_e, asgS_e, asgK_e, asgL_e, nameG_e, nilG_e, consG_e, stS_e, stK_e, stL1_e, stL2_e, stL3_e, stM_e, intOf_e, setAt_e, setAtN_e, intAt_e, intAtM_e, augS_e, augK_e, augL2_e, augKey_e, augO_e, augL3_e, augP_e, augN_e, augN1_e, augN2_e, augN3_e, nilL_e, consL_e, consL1_e, consL2_e, consL3_e, parS_e, parK_e, putL_nil, putL_cons, whlK_t, whlK_f, whlL_nx, whlL_ct, whlL_bk, whlL_rt, forK1_e, forK2_nx, forK2_ct, forK2_bk, forK2_rt, forS_e, forK_e, itF_e, itK_e, itL_e, itM_e, items_tup, items_lst, items_str, compF_e, compK2_e, yesT_e, truth_bl, eqS_int, neS_int, ltS_int, gtS_int, leS_int, geS_int, addS_int, subS_int, mulS_int, divS_int, modS_int, intS_int, idx_ls, idx_lst, idx_tup, idxM_e, idxD_e, atI0, atI1, atI2, atI3, slice_tup, slice_lst, ers_nil, ers_cons, ers_map, cat_lst, cat_tup, set_0, set_1, set_2, runK_rt, runK_nx, runL_e, lent_none, lent_some, wipe_n, wipe_c, back_n, back_c, of_some, mthF_e, mthL_e, mthK_e, mthM_e, mthN_e, napp_e, qSlot_e, fzOf_e, rgLF_e, rgLK_e, rgLM_e, putS, Option.map_some, List.set_cons_zero, List.set_cons_succ, List.map_cons, List.map_nil, List.length_cons, List.length_nil, List.length_set, List.mem_cons, List.not_mem_nil, or_false, Nat.reduceAdd, Nat.reduceLT, Nat.reduceEqDiff, List.nil_append, List.cons_append, List.replicate, Nat.reduceSub, not_false_eq_true, decide_true, Bool.and_self, Int.reduceLT, Int.reduceLE, idx_many]
      have e4 : Pf.take [0] false (.val (.fz (.int r.many))) [b, most, some (.fz (.lst (roomsD rs))), hb, o4, o5, o6, o7, o8, o9, some (.fz (roomD r))] = .ok (.fz (.int r.many), [b, most, some (.fz (.lst (roomsD rs))), hb, o4, o5, o6, o7, o8, o9, some (.fz (roomD r))]) := rfl
      rw [hcons, compL_t e1 (yesT_e _) e2 e4 (by omega), e5, List.append_assoc]
      rfl
  obtain ⟨τ', e, hc⟩ := run rs [] [b, most, some (.fz (.lst (roomsD rs))), hb, o4, o5, o6, o7, o8, o9, o10] ⟨_, rfl⟩ (by
    rw [List.length_nil]
    have : (1000 : Nat) ≤ sizeLine := by decide
    omega)
  exact ⟨τ', by rw [e, List.nil_append], hc⟩
theorem intsOf_map : ∀ l : List Int, intsOf (l.map D.int) = some l
  | [] => rfl
  | i :: l => by
    rw [List.map_cons, intsOf, intsOf_map l]
    rfl
theorem sum_ints (l : List Int) : sumS [.fz (.lst (l.map D.int))] = .ok (.fz (.int l.sum)) := by
  unfold sumS
  dsimp only
  rw [listOf_lst]
  dsimp only
  rw [intsOf_map]
theorem sum_many (l : List Room) (h : ∀ r ∈ l, 0 ≤ r.many ∧ r.many ≤ 2) : 0 ≤ (l.map fun r => r.many).sum ∧ (l.map fun r => r.many).sum ≤ 2 * l.length := by
  induction l with
  | nil => simp
  | cons r l ih =>
    have h1 := ih fun x hx => h x (List.mem_cons_of_mem _ hx)
    have h2 := h r List.mem_cons_self
    rw [List.map_cons, List.sum_cons, List.length_cons]
    omega
theorem ne_rep (n : Nat) : neS (.fz (.lst (List.replicate n (.int 1)))) (.fz (.lst [])) = .ok (.fz (.bl (decide (n ≠ 0)))) := by
  show gd (depOk (.lst (List.replicate n (.int 1))) (.lst [])) (OV.fz (.bl (!D.eqv (.lst (List.replicate n (.int 1))) (.lst [])))) = _
  have e1 : depOk (.lst (List.replicate n (.int 1))) (.lst []) = true := decide_eq_true (by
    have : D.dep (.lst []) ≤ 60 := by unfold D.dep D.py D.pys; simp [PyData.depth, PyData.depthAll]
    omega)
  have e2 : D.eqv (.lst (List.replicate n (.int 1))) (.lst []) = decide (n = 0) := by
    unfold D.eqv
    cases n with
    | zero => simp [D.py, D.pys, PyData.eqv, PyData.eqvAll]
    | succ n => simp [List.replicate_succ, D.py, D.pys, PyData.eqv, PyData.eqvAll]
  rw [e1, e2]
  by_cases h : n = 0 <;> simp [h]
end K15

namespace K15
open PySem PySem.Spec PyProof.Rows L2 Pf
def tailG : FS := (seqS (setS [0] 9 false (callF 2 (some 0) f__law_some (consA [0] true (eSlot 0) (consA [0] false (lstF (consA [0] false (eSlot 6) (consA [0] false (eSlot 6) (consA [0] false (eSlot 6) (consA [0] false (two (eSlot 6) (eLit (.int 1)) addS) (consA [0] false (biF (consA [0] true (eLit (.int 0)) (consA [0] true (two (eSlot 6) (eLit (.int 1)) subS) nilA)) maxS) nilA)))))) nilA))))
  (seqS (retS [0] (tupF (consA [0] false (biF (consA [0] true (eSlot 2) nilA) tupS) (consA [0] false (biF (consA [0] true (eLit (.int 0)) (consA [0] true (biF (consA [0] true (eSlot 9) (consA [0] true (two (eSlot 8) (eSlot 7) subS) (consA [0] true (eLit (.int 6)) nilA))) minS) nilA)) maxS) nilA))))
  nxS))
def dunG : FS := (seqS (parS [0] [2, 3] (consL [0] true (lstF (consA [0] false (tupF (consA [0] false (eLit .non) (consA [0] false (eLit .non) (consA [0] false (callF 2 (some 0) f__law_some (consA [0] true (eSlot 0) (consA [0] false (lstF (consA [0] false (eLit (.int 1)) (consA [0] false (eLit (.int 0)) (consA [0] false (eLit (.int 1)) (consA [0] false (eLit (.int 2)) nilA))))) nilA))) nilA)))) nilA)) (consL [0] false (two (callF 2 (some 0) f__law_take (consA [0] true (eSlot 0) (consA [0] false (eLit (.int 2)) nilA))) (eLit (.int 0)) eqS) nilL)))
  (seqS (forS (rngF range2S (consA [0] true (eLit (.int 1)) (consA [0] true (two (eLit (.int 1)) (callF 2 (some 0) f__law_take (consA [0] true (eSlot 0) (consA [0] false (eSlot 1) nilA))) addS) nilA))) (nameG [0] 4)
  (seqS (setS [0] 5 false (callF 2 (some 0) f__law_some (consA [0] true (eSlot 0) (consA [0] false (lstF (consA [0] false (eLit (.str "open")) (consA [0] false (eLit (.str "lock")) (consA [0] false (eLit (.str "lock")) (consA [0] false (iteF (eSlot 3) (eLit (.str "bar")) (eLit (.str "lock"))) nilA))))) nilA))))
  (seqS (exS (mthF 2 (consA [0] false (tupF (consA [0] false (callF 2 (some 0) f__law_some (consA [0] true (eSlot 0) (consA [0] false (lstF (consA [0] false (two (eSlot 4) (eLit (.int 1)) subS) (consA [0] false (callF 2 (some 0) f__law_take (consA [0] true (eSlot 0) (consA [0] false (eSlot 4) nilA))) nilA))) nilA))) (consA [0] false (eSlot 5) (consA [0] false (callF 2 (some 0) f__law_some (consA [0] true (eSlot 0) (consA [0] false (lstF (consA [0] false (eLit (.int 1)) (consA [0] false (eLit (.int 0)) (consA [0] false (eLit (.int 1)) (consA [0] false (eLit (.int 1)) (consA [0] false (eLit (.int 2)) nilA)))))) nilA))) nilA)))) nilA) appendM))
  nxS)))
  (seqS (setS [0] 6 false (biF (consA [0] true (compF [0] [10] false (itF [0] (eSlot 2)) (nameG [0] 10) (tru (two (two (eSlot 10) (eLit (.int 1)) idxS) (eLit (.str "lock")) eqS)) (eLit (.int 1))) nilA) lenS))
  (seqS (setS [0] 7 false (biF (consA [0] true (two (compF [0] [10] false (itF [0] (eSlot 2)) (nameG [0] 10) (tru (two (two (eSlot 10) (eLit (.int 1)) idxS) (eLit (.str "bar")) eqS)) (eLit (.int 1))) (lstF nilA) neS) nilA) intS))
  (seqS (setS [0] 8 false (biF (consA [0] true (compF [0] [10] false (itF [0] (eSlot 2)) (nameG [0] 10) yesT (two (eSlot 10) (eLit (.int 2)) idxS)) nilA) sumS))
  (seqS (ifS (two (eSlot 8) (eSlot 7) ltS) (seqS (parS [0] [2, 8] (consL [0] true (two (lstF (consA [0] false (tupF (consA [0] false (eLit .non) (consA [0] false (eLit .non) (consA [0] false (eLit (.int 1)) nilA)))) nilA)) (sliF (eSlot 2) (someO (eLit (.int 1))) noneO) addS) (consL [0] false (eLit (.int 1)) nilL)))
  nxS) nxS)
  tailG))))))
theorem dun_eq : g__law_dungeon = dunG := rfl
theorem minS_3 (a b c : Int) : minS [.fz (.int a), .fz (.int b), .fz (.int c)] = .ok (.fz (.int (if b < a then (if c < b then c else b) else (if c < a then c else a)))) := (rfl)
theorem maxS_2 (i j : Int) : maxS [.fz (.int i), .fz (.int j)] = .ok (.fz (.int (if j > i then j else i))) := (rfl)
theorem tail_spec {ns : List Int} {b r2 : OV} {o1 o3 o4 o5 o10 : Option OV} {locks many needed : Int} {rs : List Room} (hl : ns.length ≤ 63) (hb : Bag ns b) (hr : tupS [r2] = .ok (.fz (.tup (roomsD rs)))) (h0 : 0 ≤ locks) :
    ∃ k b', (tailG [some b, o1, some r2, o3, o4, o5, some (.fz (.int locks)), some (.fz (.int needed)), some (.fz (.int many)), none, o10]).bind (runK (some 0)) = .ok (.fz (dunD rs k), b') ∧ Bag ns b' ∧ 0 ≤ k ∧ k ≤ 6 := by
  obtain ⟨kd, b1, e1, hb1, hk⟩ := some_spec (ds := [.int locks, .int locks, .int locks, .int (locks + 1), .int (if locks - 1 > 0 then locks - 1 else 0)]) hl hb (by simp) (by simp)
  have hki : ∃ z : Int, kd = .int z := by
    simp only [List.mem_cons, List.not_mem_nil, or_false] at hk
    rcases hk with e | e | e | e | e <;> exact ⟨_, e⟩
  obtain ⟨z, rfl⟩ := hki
  obtain ⟨m0, s0, p0, rfl, _⟩ := hb
  unfold tailG
  refine ⟨if (if many - needed < z then (if 6 < many - needed then 6 else many - needed) else (if 6 < z then 6 else z)) > 0 then (if many - needed < z then (if 6 < many - needed then 6 else many - needed) else (if 6 < z then 6 else z)) else 0, b1, ?_, hb1, ?_, ?_⟩
  · simp only [okb, badb, gdt, sl0, slS, eSlot_e, eSlotK_some, eLit_e, opd_val, opd_sl, vw_val, vw_sl, er_fz, er_ls, two_e, twoK_e, twoL_e, twoM_e, valK_e, tru_e, truK_e, truM_e, blK_e, boF_e, boK_e, boM_e, boN_tt, boN_tf, boN_ft, boN_ff, notF_e, notK_e, iteF_e, iteK_t, iteK_f, negF_e, negK_e, negM_e, nilA_e, consA_e, consA1_e, consA2_e, consA3_e, kept_t, kept_f, keptK_e, settle_val, settle_sl, frzSlot_fz, frzSlot_ls, tupF_e, lstF_e, tupK_e, dsK_e, datas_nil, datas_cons, vws_nil, vws_cons, vwsK_e, biF_e, biK_e, biM_e, rngF_e, rngK_e, rngM_e, itsK_e, callF_e, callK_e, callN_none, callN_some, argsOf_none, argsOf_zero, argsOf_succ, argL_e, noneO_e, someO_e, someK_e, someM_e, sliF_e, sliK_e, sliL1_e, sliL2_e, sliM_e, nxS_e, bkS_e, ctS_e, seqS_e, seqK_nx, seqK_rt, seqK_bk, seqK_ct, ifS_e, ifK_t, ifK_f, exS_e, exK_e, retS_e, retK_e, retL_e, retN_e, give_val, give_sl, giveSlot_fz, giveSlot_ls, take_tv, take_ts, take_f, takeK_e, nxK_e, setS_e, setK_e, setL2_e, asgS_e, asgK_e, asgL_e, nameG_e, nilG_e, consG_e, stS_e, stK_e, stL1_e, stL2_e, stL3_e, stM_e, intOf_e, setAt_e, setAtN_e, intAt_e, intAtM_e, augS_e, augK_e, augL2_e, augKey_e, augO_e, augL3_e, augP_e, augN_e, augN1_e, augN2_e, augN3_e, nilL_e, consL_e, consL1_e, consL2_e, consL3_e, parS_e, parK_e, putL_nil, putL_cons, whlK_t, whlK_f, whlL_nx, whlL_ct, whlL_bk, whlL_rt, forK1_e, forK2_nx, forK2_ct, forK2_bk, forK2_rt, forS_e, forK_e, itF_e, itK_e, itL_e, itM_e, items_tup, items_lst, items_str, compF_e, compK2_e, yesT_e, truth_bl, eqS_int, neS_int, ltS_int, gtS_int, leS_int, geS_int, addS_int, subS_int, mulS_int, divS_int, modS_int, intS_int, idx_ls, idx_lst, idx_tup, idxM_e, idxD_e, atI0, atI1, atI2, atI3, slice_tup, slice_lst, ers_nil, ers_cons, ers_map, cat_lst, cat_tup, set_0, set_1, set_2, runK_rt, runK_nx, runL_e, lent_none, lent_some, wipe_n, wipe_c, back_n, back_c, of_some, mthF_e, mthL_e, mthK_e, mthM_e, mthN_e, napp_e, qSlot_e, fzOf_e, rgLF_e, rgLK_e, rgLM_e, putS, Option.map_some, List.set_cons_zero, List.set_cons_succ, List.map_cons, List.map_nil, List.length_cons, List.length_nil, List.length_set, List.mem_cons, List.not_mem_nil, or_false, Nat.reduceAdd, Nat.reduceLT, Nat.reduceEqDiff, List.nil_append, List.cons_append, List.replicate, Nat.reduceSub, not_false_eq_true, decide_true, Bool.and_self, Int.reduceLT, Int.reduceLE, argL_bag, callM_e, some_eq, e1, maxS_2, minS_3, hr, size_ok 5 (by decide), size_ok 2 (by decide)]
    rfl
  · split <;> omega
  · split
    · split <;> split <;> omega
    · omega
theorem range2_nat (n : Nat) (h : n ≤ 1000) : range2S [.fz (.int 1), .fz (.int (1 + n))] = .ok (natsD (List.range' 1 n)) := by
  unfold range2S okR
  dsimp only
  rw [decide_eq_true (by omega), decide_eq_true (by omega)]
  have e : (1 + (n : Int) - 1).toNat = n := by omega
  rw [e]
  show Res.ok (rangeL 1 n 1) = _
  congr 1
  unfold rangeL natsD natD
  rw [List.range'_eq_map_range, List.map_map]
  apply List.map_congr_left
  intro i _
  show D.int (1 + (i : Nat) * 1) = .int (((1 + i : Nat)) : Int)
  congr 1
  omega
theorem tup_ls (ds : List D) : tupS [.ls (ds.map OV.fz)] = .ok (.fz (.tup ds)) := by
  show (match seqOf (.ls (ds.map OV.fz)) with | some ds => Res.ok (OV.fz (.tup ds)) | none => .bad) = _
  have e : seqOf (.ls (ds.map OV.fz)) = some ds := listOf_ls ds
  rw [e]
theorem drop_rooms (rs : List Room) : Pf.cutD (roomsD rs) (some 1) none = roomsD (rs.drop 1) := by
  unfold Pf.cutD HT.sIx roomsD
  rw [List.length_map]
  simp only [Int.reduceLT, if_false]
  rw [← List.map_drop, ← List.map_take]
  congr 1
  by_cases h : rs.length = 0
  · rw [List.length_eq_zero_iff.mp h]; rfl
  · rw [show min (Int.toNat 1) rs.length = 1 by simp; omega, List.take_of_length_le (by rw [List.length_drop]; omega)]
theorem dungeon_spec {ns : List Int} {b : OV} {most : Int} (hl : ns.length ≤ 63) (h1 : 1 ≤ most) (h2 : most ≤ 10) (hb : Bag ns b) : ∃ rs k b', f__law_dungeon [b, .fz (.int most)] = .ok (.fz (dunD rs k), b') ∧ Bag ns b' ∧ Dun rs ∧ 0 ≤ k ∧ k ≤ 6 := by
  obtain ⟨cd, b1, e1, hb1, hcd⟩ := some_spec (ds := [.int 1, .int 0, .int 1, .int 2]) hl hb (by simp) (by simp)
  have hc : ∃ c : Int, cd = .int c ∧ 0 ≤ c ∧ c ≤ 2 := by
    simp only [List.mem_cons, List.not_mem_nil, or_false] at hcd
    rcases hcd with e | e | e | e <;> exact ⟨_, e, by omega, by omega⟩
  obtain ⟨c, rfl, hc⟩ := hc
  obtain ⟨x2, b2, e2, hb2, x20, x21⟩ := take_spec (many := 2) hl (by decide) (by decide) hb1
  obtain ⟨x3, b3, e3, hb3, x30, x31⟩ := take_spec (many := most) hl (by omega) (log_small (by omega) (by omega)) hb2
  obtain ⟨n, rfl⟩ : ∃ n : Nat, x3 = n := ⟨x3.toNat, by omega⟩
  obtain ⟨b4, rs, o4, o5, e4, hb4, g, hlen⟩ := room_loop (most := some (.fz (.int most))) (hbs := x2 == 0) (o6 := none) (o7 := none) (o8 := none) (o9 := none) (o10 := none) hl n b3 [⟨none, .non, c⟩] none none hb3 (Dun.one hc) (by rw [List.length_singleton]; omega)
  rw [List.length_singleton, some_eq, take_eq] at e4
  obtain ⟨n1, τ1, c1, ⟨q1, rfl⟩, hn1⟩ := count_comp (x := "lock") (b := some b4) (most := some (.fz (.int most))) (hb := some (.fz (.bl (x2 == 0)))) (o4 := o4) (o5 := o5) (o6 := none) (o7 := none) (o8 := none) (o9 := none) (o10 := none) g
  obtain ⟨n2, τ2, c2, ⟨q2, rfl⟩, hn2⟩ := count_comp (x := "bar") (b := some b4) (most := some (.fz (.int most))) (hb := some (.fz (.bl (x2 == 0)))) (o4 := o4) (o5 := o5) (o6 := some (.fz (.int n1))) (o7 := none) (o8 := none) (o9 := none) (o10 := none) g
  generalize hnd : (if decide (n2 ≠ 0) = true then (1 : Int) else 0) = nd
  obtain ⟨τ3, c3, ⟨q3, rfl⟩⟩ := many_comp (b := some b4) (most := some (.fz (.int most))) (hb := some (.fz (.bl (x2 == 0)))) (o4 := o4) (o5 := o5) (o6 := some (.fz (.int n1))) (o7 := some (.fz (.int nd))) (o8 := none) (o9 := none) (o10 := none) g
  generalize hsum : (rs.map fun r => r.many).sum = many at *
  have hint : ∀ bb : Bool, intS [.fz (.bl bb)] = .ok (.fz (.int (if bb = true then 1 else 0))) := fun bb => by cases bb <;> rfl
  have hz : ∀ (p q r s t u v w x y : Option OV), ([10].all (noOwn [p, q, r, s, t, u, v, w, x, y, none]) && [10].all (fun i => decide (i ∉ [0]))) = true := fun _ _ _ _ _ _ _ _ _ _ => rfl
  have hr2 := range2_nat n (by omega)
  have hrd : roomD ⟨none, .non, c⟩ = .tup [.non, .non, .int c] := rfl
  have hone : (roomsD [⟨none, .non, c⟩]).map OV.fz = [.fz (.tup [.non, .non, .int c])] := rfl
  rw [hone] at e4
  have hs := sum_ints (rs.map fun r => r.many)
  rw [hsum] at hs
  obtain ⟨m0, s0, p0, rfl, _⟩ := hb
  obtain ⟨m1, s1, p1, rfl, _⟩ := hb1
  obtain ⟨m2, s2, p2, rfl, _⟩ := hb2
  unfold f__law_dungeon
  rw [dun_eq]
  unfold dunG
  rw [runF_e]
  case h => rfl
  rw [some_eq, take_eq]
  by_cases hlt : many < nd
  · obtain ⟨k, b', e9, hb9, k0, k6⟩ := tail_spec (r2 := .ls ((roomsD (⟨none, .non, 1⟩ :: rs.drop 1)).map OV.fz)) (o1 := some (.fz (.int most))) (o3 := some (.fz (.bl (x2 == 0)))) (o4 := o4) (o5 := o5) (o10 := none) (locks := n1) (many := 1) (needed := nd) hl hb4 (tup_ls _) (by omega)
    refine ⟨_, k, b', ?_, hb9, g.first, k0, k6⟩
    have hd : decide (many < nd) = true := decide_eq_true hlt
    have hcons : (roomsD (⟨none, .non, 1⟩ :: rs.drop 1)).map OV.fz = .fz (.tup [.non, .non, .int 1]) :: (roomsD (rs.drop 1)).map OV.fz := rfl
    have hsz : 1 + (roomsD (rs.drop 1)).length ≤ 1000000 := by unfold roomsD; rw [List.length_map, List.length_drop]; have := g.len; omega
    rw [hcons] at e9
    simp only [okb, badb, gdt, sl0, slS, eSlot_e, eSlotK_some, eLit_e, opd_val, opd_sl, vw_val, vw_sl, er_fz, er_ls, two_e, twoK_e, twoL_e, twoM_e, valK_e, tru_e, truK_e, truM_e, blK_e, boF_e, boK_e, boM_e, boN_tt, boN_tf, boN_ft, boN_ff, notF_e, notK_e, iteF_e, iteK_t, iteK_f, negF_e, negK_e, negM_e, nilA_e, consA_e, consA1_e, consA2_e, consA3_e, kept_t, kept_f, keptK_e, settle_val, settle_sl, frzSlot_fz, frzSlot_ls, tupF_e, lstF_e, tupK_e, dsK_e, datas_nil, datas_cons, vws_nil, vws_cons, vwsK_e, biF_e, biK_e, biM_e, rngF_e, rngK_e, rngM_e, itsK_e, callF_e, callK_e, callN_none, callN_some, argsOf_none, argsOf_zero, argsOf_succ, argL_e, noneO_e, someO_e, someK_e, someM_e, sliF_e, sliK_e, sliL1_e, sliL2_e, sliM_e, nxS_e, bkS_e, ctS_e, seqS_e, seqK_nx, seqK_rt, seqK_bk, seqK_ct, ifS_e, ifK_t, ifK_f, exS_e, exK_e, retS_e, retK_e, retL_e, retN_e, give_val, give_sl, giveSlot_fz, giveSlot_ls, take_tv, take_ts, take_f, takeK_e, nxK_e, setS_e, setK_e, setL2_e, asgS_e, asgK_e, asgL_e, nameG_e, nilG_e, consG_e, stS_e, stK_e, stL1_e, stL2_e, stL3_e, stM_e, intOf_e, setAt_e, setAtN_e, intAt_e, intAtM_e, augS_e, augK_e, augL2_e, augKey_e, augO_e, augL3_e, augP_e, augN_e, augN1_e, augN2_e, augN3_e, nilL_e, consL_e, consL1_e, consL2_e, consL3_e, parS_e, parK_e, putL_nil, putL_cons, whlK_t, whlK_f, whlL_nx, whlL_ct, whlL_bk, whlL_rt, forK1_e, forK2_nx, forK2_ct, forK2_bk, forK2_rt, forS_e, forK_e, itF_e, itK_e, itL_e, itM_e, items_tup, items_lst, items_str, compF_e, compK2_e, yesT_e, truth_bl, eqS_int, neS_int, ltS_int, gtS_int, leS_int, geS_int, addS_int, subS_int, mulS_int, divS_int, modS_int, intS_int, idx_ls, idx_lst, idx_tup, idxM_e, idxD_e, atI0, atI1, atI2, atI3, slice_tup, slice_lst, ers_nil, ers_cons, ers_map, cat_lst, cat_tup, set_0, set_1, set_2, runK_rt, runK_nx, runL_e, lent_none, lent_some, wipe_n, wipe_c, back_n, back_c, of_some, mthF_e, mthL_e, mthK_e, mthM_e, mthN_e, napp_e, qSlot_e, fzOf_e, rgLF_e, rgLK_e, rgLM_e, putS, Option.map_some, List.set_cons_zero, List.set_cons_succ, List.map_cons, List.map_nil, List.length_cons, List.length_nil, List.length_set, List.mem_cons, List.not_mem_nil, or_false, Nat.reduceAdd, Nat.reduceLT, Nat.reduceEqDiff, List.nil_append, List.cons_append, List.replicate, Nat.reduceSub, not_false_eq_true, decide_true, Bool.and_self, Int.reduceLT, Int.reduceLE, argL_bag, callM_e, e1, e2, e3, hr2, e4, compK_e _ _ _ _ _ _ _ _ (hz _ _ _ _ _ _ _ _ _ _), c1, c2, c3, len_fzlst, List.length_replicate, ne_rep, hint, hnd, hs, hd, drop_rooms, size_ok 4 (by decide), size_ok 3 (by decide), size_ok 1 (by decide), size_ok 0 (by decide), size_ok _ hsz, if_false]
    exact e9
  · obtain ⟨k, b', e9, hb9, k0, k6⟩ := tail_spec (r2 := .fz (.lst (roomsD rs))) (o1 := some (.fz (.int most))) (o3 := some (.fz (.bl (x2 == 0)))) (o4 := o4) (o5 := o5) (o10 := none) (locks := n1) (many := many) (needed := nd) hl hb4 (tupS_fz _) (by omega)
    refine ⟨_, k, b', ?_, hb9, g, k0, k6⟩
    have hd : decide (many < nd) = false := decide_eq_false hlt
    simp only [okb, badb, gdt, sl0, slS, eSlot_e, eSlotK_some, eLit_e, opd_val, opd_sl, vw_val, vw_sl, er_fz, er_ls, two_e, twoK_e, twoL_e, twoM_e, valK_e, tru_e, truK_e, truM_e, blK_e, boF_e, boK_e, boM_e, boN_tt, boN_tf, boN_ft, boN_ff, notF_e, notK_e, iteF_e, iteK_t, iteK_f, negF_e, negK_e, negM_e, nilA_e, consA_e, consA1_e, consA2_e, consA3_e, kept_t, kept_f, keptK_e, settle_val, settle_sl, frzSlot_fz, frzSlot_ls, tupF_e, lstF_e, tupK_e, dsK_e, datas_nil, datas_cons, vws_nil, vws_cons, vwsK_e, biF_e, biK_e, biM_e, rngF_e, rngK_e, rngM_e, itsK_e, callF_e, callK_e, callN_none, callN_some, argsOf_none, argsOf_zero, argsOf_succ, argL_e, noneO_e, someO_e, someK_e, someM_e, sliF_e, sliK_e, sliL1_e, sliL2_e, sliM_e, nxS_e, bkS_e, ctS_e, seqS_e, seqK_nx, seqK_rt, seqK_bk, seqK_ct, ifS_e, ifK_t, ifK_f, exS_e, exK_e, retS_e, retK_e, retL_e, retN_e, give_val, give_sl, giveSlot_fz, giveSlot_ls, take_tv, take_ts, take_f, takeK_e, nxK_e, setS_e, setK_e, setL2_e, asgS_e, asgK_e, asgL_e, nameG_e, nilG_e, consG_e, stS_e, stK_e, stL1_e, stL2_e, stL3_e, stM_e, intOf_e, setAt_e, setAtN_e, intAt_e, intAtM_e, augS_e, augK_e, augL2_e, augKey_e, augO_e, augL3_e, augP_e, augN_e, augN1_e, augN2_e, augN3_e, nilL_e, consL_e, consL1_e, consL2_e, consL3_e, parS_e, parK_e, putL_nil, putL_cons, whlK_t, whlK_f, whlL_nx, whlL_ct, whlL_bk, whlL_rt, forK1_e, forK2_nx, forK2_ct, forK2_bk, forK2_rt, forS_e, forK_e, itF_e, itK_e, itL_e, itM_e, items_tup, items_lst, items_str, compF_e, compK2_e, yesT_e, truth_bl, eqS_int, neS_int, ltS_int, gtS_int, leS_int, geS_int, addS_int, subS_int, mulS_int, divS_int, modS_int, intS_int, idx_ls, idx_lst, idx_tup, idxM_e, idxD_e, atI0, atI1, atI2, atI3, slice_tup, slice_lst, ers_nil, ers_cons, ers_map, cat_lst, cat_tup, set_0, set_1, set_2, runK_rt, runK_nx, runL_e, lent_none, lent_some, wipe_n, wipe_c, back_n, back_c, of_some, mthF_e, mthL_e, mthK_e, mthM_e, mthN_e, napp_e, qSlot_e, fzOf_e, rgLF_e, rgLK_e, rgLM_e, putS, Option.map_some, List.set_cons_zero, List.set_cons_succ, List.map_cons, List.map_nil, List.length_cons, List.length_nil, List.length_set, List.mem_cons, List.not_mem_nil, or_false, Nat.reduceAdd, Nat.reduceLT, Nat.reduceEqDiff, List.nil_append, List.cons_append, List.replicate, Nat.reduceSub, not_false_eq_true, decide_true, Bool.and_self, Int.reduceLT, Int.reduceLE, argL_bag, callM_e, e1, e2, e3, hr2, e4, compK_e _ _ _ _ _ _ _ _ (hz _ _ _ _ _ _ _ _ _ _), c1, c2, c3, len_fzlst, List.length_replicate, ne_rep, hint, hnd, hs, hd, size_ok 4 (by decide), size_ok 3 (by decide), size_ok 1 (by decide), size_ok 0 (by decide), if_false]
    exact e9
end K15

namespace K15
open PySem PySem.Spec PyProof.Rows L2 Pf
/-! what is told -/
theorem nat_okS {n : Nat} (h : n ≤ 1000000) : (natD n).okS = true := by
  unfold natD
  simp only [D.okS, decide_eq_true_eq]
  by_cases hz : n = 0
  · subst hz; decide
  · have : ((n : Int)).natAbs = n := by simp
    rw [this]
    exact Nat.lt_trans ((Nat.log2_lt hz).mpr (show n < 2 ^ 20 by omega)) (by decide)
theorem nats_okS : ∀ (l : List Nat), (∀ x ∈ l, x ≤ 1000000) → D.okSs (natsD l) = true
  | [], _ => by unfold natsD; simp only [List.map_nil, D.okSs]
  | x :: l, h => by
    have e : natsD (x :: l) = natD x :: natsD l := rfl
    rw [e]
    simp only [D.okSs, nat_okS (h x List.mem_cons_self), nats_okS l fun y hy => h y (List.mem_cons_of_mem _ hy), Bool.and_self]
theorem nats_wid : ∀ (l : List Nat), D.wids (natsD l) = 1923 * l.length
  | [] => by unfold natsD; simp only [List.map_nil, D.wids, List.length_nil, Nat.mul_zero]
  | x :: l => by
    have e : natsD (x :: l) = natD x :: natsD l := rfl
    rw [e]
    unfold natD
    simp only [D.wids, D.wid, nats_wid l, List.length_cons]
    omega
theorem nats_dep : ∀ (l : List Nat), PyData.depthAll (D.pys (natsD l)) = 0
  | [] => by unfold natsD; simp only [List.map_nil, D.pys, PyData.depthAll]
  | x :: l => by
    have e : natsD (x :: l) = natD x :: natsD l := rfl
    rw [e]
    unfold natD
    simp only [D.pys, PyData.depthAll, D.py, PyData.depth, nats_dep l, Nat.max_self]
theorem told_nats {l : List Nat} (h : ∀ x ∈ l, x ≤ 1000000) (hl : l.length ≤ 1000) : Told (.tup (natsD l)) := by
  refine ⟨?_, ?_, ?_⟩
  · simp only [D.okS]; exact nats_okS l h
  · simp only [D.wid, nats_wid]; omega
  · unfold D.dep
    simp only [D.py, PyData.depth, nats_dep]
    decide
theorem told_bl (b : Bool) : Told (.bl b) := by
  refine ⟨?_, ?_, ?_⟩
  · simp only [D.okS]
  · simp only [D.wid]; decide
  · unfold D.dep
    simp only [D.py, PyData.depth]
    decide
theorem way_okS {d : D} (h : okWay d) : d.okS = true ∧ d.wid ≤ 100 ∧ d.py.depth = 0 := by
  rcases h with e | e | e | e <;> subst e <;> exact ⟨by decide +kernel, by decide +kernel, by simp only [D.py, PyData.depth]⟩
theorem par_okS {o : Option Nat} (h : ∀ p, o = some p → p ≤ 1000000) : (parD o).okS = true ∧ (parD o).wid ≤ 1921 ∧ (parD o).py.depth = 0 := by
  cases o with
  | none => exact ⟨by decide, by decide, by simp only [parD, D.py, PyData.depth]⟩
  | some p => exact ⟨nat_okS (h p rfl), by unfold parD natD; simp only [D.wid]; omega, by unfold parD natD; simp only [D.py, PyData.depth]⟩
theorem rooms_told : ∀ (l : List Room), (∀ r ∈ l, (∀ p, r.par = some p → p ≤ 1000000) ∧ okWay r.way ∧ 0 ≤ r.many ∧ r.many ≤ 2) → D.okSs (l.map roomD) = true ∧ D.wids (l.map roomD) ≤ 4000 * l.length ∧ PyData.depthAll (D.pys (l.map roomD)) ≤ 5
  | [], _ => ⟨by simp only [List.map_nil, D.okSs], by simp only [List.map_nil, D.wids, List.length_nil]; omega, by simp only [List.map_nil, D.pys, PyData.depthAll]; omega⟩
  | r :: l, h => by
    obtain ⟨h1, h2, h3⟩ := rooms_told l fun x hx => h x (List.mem_cons_of_mem _ hx)
    obtain ⟨hp, hw, hm⟩ := h r List.mem_cons_self
    obtain ⟨p1, p2, p3⟩ := par_okS hp
    obtain ⟨w1, w2, w3⟩ := way_okS hw
    have hmo : (D.int r.many).okS = true := by
      obtain ⟨n, hn⟩ : ∃ n : Nat, r.many = n := ⟨r.many.toNat, by omega⟩
      rw [hn]
      exact nat_okS (by omega)
    refine ⟨?_, ?_, ?_⟩
    · simp only [List.map_cons, D.okSs, roomD, D.okS] at *
      simp only [p1, w1, hmo, h1, Bool.and_self, D.okS]
      all_goals exact hmo
    · simp only [List.map_cons, D.wids, roomD, D.wid, List.length_cons]
      omega
    · simp only [List.map_cons, D.pys, PyData.depthAll, roomD, D.py, PyData.depth, p3, w3]
      have := h3
      omega
theorem told_dun {rs : List Room} {k : Int} (g : Dun rs) (k0 : 0 ≤ k) (k6 : k ≤ 6) : Told (dunD rs k) := by
  have hl := g.len
  obtain ⟨h1, h2, h3⟩ := rooms_told rs fun r hr => by
    obtain ⟨v, hv, e⟩ := List.mem_iff_getElem.mp hr
    refine ⟨fun p hp => ?_, g.way r hr, g.many r hr⟩
    have := g.up v r (by rw [List.getElem?_eq_getElem hv, e]) p hp
    omega
  obtain ⟨n, rfl⟩ : ∃ n : Nat, k = n := ⟨k.toNat, by omega⟩
  have hk : (D.int n).okS = true := nat_okS (n := n) (by omega)
  refine ⟨?_, ?_, ?_⟩
  · unfold dunD
    simp only [D.okS, D.okSs, h1, Bool.and_true, Bool.true_and] at hk ⊢
    all_goals exact hk
  · unfold dunD
    simp only [D.wid, D.wids]
    omega
  · unfold dunD D.dep
    simp only [D.py, D.pys, PyData.depth, PyData.depthAll]
    omega
/-! the law's own rim -/
theorem own_rim {rs : List Room} {k : Int} {lot : List Nat} {sc b o2 o4 o7 o9 o10 o8 : Option OV} (g : Dun rs) : ∃ τ', compL [] [8] false (nameG [] 8) (tru (boF false (two (eSlot 8) (eSlot 6) (memS true)) (two (two (two (eSlot 5) (eSlot 8) idxS) (eLit (.int 0)) idxS) (eSlot 6) (memS false)))) (eSlot 8) (natsD (List.range rs.length)) []
    [sc, b, o2, some (.fz (dunD rs k)), o4, some (.fz (.tup (rs.map roomD))), some (.fz (.tup (natsD lot))), o7, o8, o9, o10] = .ok ((natsD ((List.range rs.length).filter (inRim rs lot))).map OV.fz, τ') ∧ ∃ o, τ' = [sc, b, o2, some (.fz (dunD rs k)), o4, some (.fz (.tup (rs.map roomD))), some (.fz (.tup (natsD lot))), o7, o, o9, o10] := by
  have hl := g.len
  have turn : ∀ (d : D) (τ : T), (∃ v, v < rs.length ∧ d = natD v) → (∃ o, τ = [sc, b, o2, some (.fz (dunD rs k)), o4, some (.fz (.tup (rs.map roomD))), some (.fz (.tup (natsD lot))), o7, o, o9, o10]) → ∃ τ1 t τ2, nameG [] 8 d (wipeT τ [8]) = .ok τ1 ∧ tru (boF false (two (eSlot 8) (eSlot 6) (memS true)) (two (two (two (eSlot 5) (eSlot 8) idxS) (eLit (.int 0)) idxS) (eSlot 6) (memS false))) τ1 = .ok (t, τ2) ∧
      (t = false → keepIf (inRim rs lot) d = none ∧ (∃ o, τ2 = [sc, b, o2, some (.fz (dunD rs k)), o4, some (.fz (.tup (rs.map roomD))), some (.fz (.tup (natsD lot))), o7, o, o9, o10])) ∧
      (t = true → ∃ p τ3 o τ4, eSlot 8 τ2 = .ok (p, τ3) ∧ Pf.take [] false p τ3 = .ok (o, τ4) ∧ keepIf (inRim rs lot) d = some o ∧ (∃ o, τ4 = [sc, b, o2, some (.fz (dunD rs k)), o4, some (.fz (.tup (rs.map roomD))), some (.fz (.tup (natsD lot))), o7, o, o9, o10])) := by
    rintro d τ ⟨v, hv, rfl⟩ ⟨o, rfl⟩
    have m1 := memS_tup true v lot
    have m2 := memS_par false rs[v].par lot
    rw [Bool.true_xor] at m1
    rw [Bool.false_xor] at m2
    have hnm : (!decide (v ∈ lot)) = decide (v ∉ lot) := by by_cases h : v ∈ lot <;> simp [h]
    rw [hnm] at m1
    refine ⟨[sc, b, o2, some (.fz (dunD rs k)), o4, some (.fz (.tup (rs.map roomD))), some (.fz (.tup (natsD lot))), o7, some (.fz (natD v)), o9, o10], inRim rs lot v, [sc, b, o2, some (.fz (dunD rs k)), o4, some (.fz (.tup (rs.map roomD))), some (.fz (.tup (natsD lot))), o7, some (.fz (natD v)), o9, o10], rfl, rim_test hv ?_ ?_, fun h => ⟨?_, _, rfl⟩,
      fun h => ⟨.sl 8, [sc, b, o2, some (.fz (dunD rs k)), o4, some (.fz (.tup (rs.map roomD))), some (.fz (.tup (natsD lot))), o7, some (.fz (natD v)), o9, o10], .fz (natD v), _, rfl, rfl, ?_, _, rfl⟩⟩
    · simp only [okb, badb, gdt, sl0, slS, eSlot_e, eSlotK_some, eLit_e, opd_val, opd_sl, vw_val, vw_sl, er_fz, er_ls, two_e, twoK_e, twoL_e, twoM_e, valK_e, tru_e, truK_e, truM_e, blK_e, boF_e, boK_e, boM_e, boN_tt, boN_tf, boN_ft, boN_ff, notF_e, notK_e, iteF_e, iteK_t, iteK_f, negF_e, negK_e, negM_e, nilA_e, consA_e, consA1_e, consA2_e, consA3_e, kept_t, kept_f, keptK_e, settle_val, settle_sl, frzSlot_fz, frzSlot_ls, tupF_e, lstF_e, tupK_e, dsK_e, datas_nil, datas_cons, vws_nil, vws_cons, vwsK_e, biF_e, biK_e, biM_e, rngF_e, rngK_e, rngM_e, itsK_e, callF_e, callK_e, callN_none, callN_some, argsOf_none, argsOf_zero, argsOf_succ, argL_e, noneO_e, someO_e, someK_e, someM_e, sliF_e, sliK_e, sliL1_e, sliL2_e, sliM_e, nxS_e, bkS_e, ctS_e, seqS_e, seqK_nx, seqK_rt, seqK_bk, seqK_ct, ifS_e, ifK_t, ifK_f, exS_e, exK_e, retS_e, retK_e, retL_e, retN_e, give_val, give_sl, giveSlot_fz, giveSlot_ls, take_tv, take_ts, take_f, takeK_e, nxK_e, setS_e, setK_e, setL2_e, asgS_e, asgK_e, asgL_e, nameG_e, nilG_e, consG_e, stS_e, stK_e, stL1_e, stL2_e, stL3_e, stM_e, intOf_e, setAt_e, setAtN_e, intAt_e, intAtM_e, augS_e, augK_e, augL2_e, augKey_e, augO_e, augL3_e, augP_e, augN_e, augN1_e, augN2_e, augN3_e, nilL_e, consL_e, consL1_e, consL2_e, consL3_e, parS_e, parK_e, putL_nil, putL_cons, whlK_t, whlK_f, whlL_nx, whlL_ct, whlL_bk, whlL_rt, forK1_e, forK2_nx, forK2_ct, forK2_bk, forK2_rt, forS_e, forK_e, itF_e, itK_e, itL_e, itM_e, items_tup, items_lst, items_str, compF_e, compK2_e, yesT_e, truth_bl, eqS_int, neS_int, ltS_int, gtS_int, leS_int, geS_int, addS_int, subS_int, mulS_int, divS_int, modS_int, intS_int, idx_ls, idx_lst, idx_tup, idxM_e, idxD_e, atI0, atI1, atI2, atI3, slice_tup, slice_lst, ers_nil, ers_cons, ers_map, cat_lst, cat_tup, set_0, set_1, set_2, runK_rt, runK_nx, runL_e, lent_none, lent_some, wipe_n, wipe_c, back_n, back_c, of_some, mthF_e, mthL_e, mthK_e, mthM_e, mthN_e, napp_e, qSlot_e, fzOf_e, rgLF_e, rgLK_e, rgLM_e, putS, Option.map_some, List.set_cons_zero, List.set_cons_succ, List.map_cons, List.map_nil, List.length_cons, List.length_nil, List.length_set, List.mem_cons, List.not_mem_nil, or_false, Nat.reduceAdd, Nat.reduceLT, Nat.reduceEqDiff, List.nil_append, List.cons_append, List.replicate, Nat.reduceSub, not_false_eq_true, decide_true, Bool.and_self, Int.reduceLT, Int.reduceLE, m1]
    · simp only [okb, badb, gdt, sl0, slS, eSlot_e, eSlotK_some, eLit_e, opd_val, opd_sl, vw_val, vw_sl, er_fz, er_ls, two_e, twoK_e, twoL_e, twoM_e, valK_e, tru_e, truK_e, truM_e, blK_e, boF_e, boK_e, boM_e, boN_tt, boN_tf, boN_ft, boN_ff, notF_e, notK_e, iteF_e, iteK_t, iteK_f, negF_e, negK_e, negM_e, nilA_e, consA_e, consA1_e, consA2_e, consA3_e, kept_t, kept_f, keptK_e, settle_val, settle_sl, frzSlot_fz, frzSlot_ls, tupF_e, lstF_e, tupK_e, dsK_e, datas_nil, datas_cons, vws_nil, vws_cons, vwsK_e, biF_e, biK_e, biM_e, rngF_e, rngK_e, rngM_e, itsK_e, callF_e, callK_e, callN_none, callN_some, argsOf_none, argsOf_zero, argsOf_succ, argL_e, noneO_e, someO_e, someK_e, someM_e, sliF_e, sliK_e, sliL1_e, sliL2_e, sliM_e, nxS_e, bkS_e, ctS_e, seqS_e, seqK_nx, seqK_rt, seqK_bk, seqK_ct, ifS_e, ifK_t, ifK_f, exS_e, exK_e, retS_e, retK_e, retL_e, retN_e, give_val, give_sl, giveSlot_fz, giveSlot_ls, take_tv, take_ts, take_f, takeK_e, nxK_e, setS_e, setK_e, setL2_e, asgS_e, asgK_e, asgL_e, nameG_e, nilG_e, consG_e, stS_e, stK_e, stL1_e, stL2_e, stL3_e, stM_e, intOf_e, setAt_e, setAtN_e, intAt_e, intAtM_e, augS_e, augK_e, augL2_e, augKey_e, augO_e, augL3_e, augP_e, augN_e, augN1_e, augN2_e, augN3_e, nilL_e, consL_e, consL1_e, consL2_e, consL3_e, parS_e, parK_e, putL_nil, putL_cons, whlK_t, whlK_f, whlL_nx, whlL_ct, whlL_bk, whlL_rt, forK1_e, forK2_nx, forK2_ct, forK2_bk, forK2_rt, forS_e, forK_e, itF_e, itK_e, itL_e, itM_e, items_tup, items_lst, items_str, compF_e, compK2_e, yesT_e, truth_bl, eqS_int, neS_int, ltS_int, gtS_int, leS_int, geS_int, addS_int, subS_int, mulS_int, divS_int, modS_int, intS_int, idx_ls, idx_lst, idx_tup, idxM_e, idxD_e, atI0, atI1, atI2, atI3, slice_tup, slice_lst, ers_nil, ers_cons, ers_map, cat_lst, cat_tup, set_0, set_1, set_2, runK_rt, runK_nx, runL_e, lent_none, lent_some, wipe_n, wipe_c, back_n, back_c, of_some, mthF_e, mthL_e, mthK_e, mthM_e, mthN_e, napp_e, qSlot_e, fzOf_e, rgLF_e, rgLK_e, rgLM_e, putS, Option.map_some, List.set_cons_zero, List.set_cons_succ, List.map_cons, List.map_nil, List.length_cons, List.length_nil, List.length_set, List.mem_cons, List.not_mem_nil, or_false, Nat.reduceAdd, Nat.reduceLT, Nat.reduceEqDiff, List.nil_append, List.cons_append, List.replicate, Nat.reduceSub, not_false_eq_true, decide_true, Bool.and_self, Int.reduceLT, Int.reduceLE, idx_room (room_get hv), idx_par, m2]
      all_goals (cases rs[v].par <;> rfl)
    · rw [keepIf_nat, h]; rfl
    · rw [keepIf_nat, h]; rfl
  obtain ⟨τ', e, o, rfl⟩ := comp_map (io := []) (vs := [8]) (own := false) (g := nameG [] 8) (c := tru (boF false (two (eSlot 8) (eSlot 6) (memS true)) (two (two (two (eSlot 5) (eSlot 8) idxS) (eLit (.int 0)) idxS) (eSlot 6) (memS false)))) (f := eSlot 8) (fun τ => ∃ o, τ = [sc, b, o2, some (.fz (dunD rs k)), o4, some (.fz (.tup (rs.map roomD))), some (.fz (.tup (natsD lot))), o7, o, o9, o10])
    (keepIf (inRim rs lot)) (fun d => ∃ v, v < rs.length ∧ d = natD v) turn (natsD (List.range rs.length)) [] [sc, b, o2, some (.fz (dunD rs k)), o4, some (.fz (.tup (rs.map roomD))), some (.fz (.tup (natsD lot))), o7, o8, o9, o10]
    (fun d hd => by unfold natsD at hd; obtain ⟨u, hu, e⟩ := List.mem_map.mp hd; exact ⟨u, List.mem_range.mp hu, e.symm⟩) ⟨_, rfl⟩ (by
      unfold natsD
      rw [List.length_map, List.length_range, List.length_nil]
      have : (1000 : Nat) ≤ sizeLine := by decide
      omega)
  rw [filter_fz, List.nil_append] at e
  exact ⟨_, e, o, rfl⟩
/-! bars on the way, the law's own -/
theorem own_bars {rs : List Room} {k : Int} {lot l : List Nat} {sc b o2 o4 o7 o8 o9 o10 : Option OV} (hl : ∀ u ∈ l, u < rs.length) (hz : l.length ≤ 1000) : ∃ τ', compL [] [10] false (nameG [] 10) (tru (two (two (two (eSlot 5) (eSlot 10) idxS) (eLit (.int 1)) idxS) (eLit (.str "bar")) eqS)) (eSlot 10) (natsD l) []
    [sc, b, o2, some (.fz (dunD rs k)), o4, some (.fz (.tup (rs.map roomD))), some (.fz (.tup (natsD lot))), o7, o8, o9, o10] = .ok ((natsD (l.filter (barAt rs))).map OV.fz, τ') ∧ ∃ o, τ' = [sc, b, o2, some (.fz (dunD rs k)), o4, some (.fz (.tup (rs.map roomD))), some (.fz (.tup (natsD lot))), o7, o8, o9, o] := by
  have turn : ∀ (d : D) (τ : T), (∃ v, v < rs.length ∧ d = natD v) → (∃ o, τ = [sc, b, o2, some (.fz (dunD rs k)), o4, some (.fz (.tup (rs.map roomD))), some (.fz (.tup (natsD lot))), o7, o8, o9, o]) → ∃ τ1 t τ2, nameG [] 10 d (wipeT τ [10]) = .ok τ1 ∧ tru (two (two (two (eSlot 5) (eSlot 10) idxS) (eLit (.int 1)) idxS) (eLit (.str "bar")) eqS) τ1 = .ok (t, τ2) ∧
      (t = false → keepIf (barAt rs) d = none ∧ (∃ o, τ2 = [sc, b, o2, some (.fz (dunD rs k)), o4, some (.fz (.tup (rs.map roomD))), some (.fz (.tup (natsD lot))), o7, o8, o9, o])) ∧
      (t = true → ∃ p τ3 o τ4, eSlot 10 τ2 = .ok (p, τ3) ∧ Pf.take [] false p τ3 = .ok (o, τ4) ∧ keepIf (barAt rs) d = some o ∧ (∃ o, τ4 = [sc, b, o2, some (.fz (dunD rs k)), o4, some (.fz (.tup (rs.map roomD))), some (.fz (.tup (natsD lot))), o7, o8, o9, o])) := by
    rintro d τ ⟨v, hv, rfl⟩ ⟨o, rfl⟩
    refine ⟨[sc, b, o2, some (.fz (dunD rs k)), o4, some (.fz (.tup (rs.map roomD))), some (.fz (.tup (natsD lot))), o7, o8, o9, some (.fz (natD v))], barAt rs v, [sc, b, o2, some (.fz (dunD rs k)), o4, some (.fz (.tup (rs.map roomD))), some (.fz (.tup (natsD lot))), o7, o8, o9, some (.fz (natD v))], rfl, ?_, fun h => ⟨?_, _, rfl⟩,
      fun h => ⟨.sl 10, [sc, b, o2, some (.fz (dunD rs k)), o4, some (.fz (.tup (rs.map roomD))), some (.fz (.tup (natsD lot))), o7, o8, o9, some (.fz (natD v))], .fz (natD v), _, rfl, rfl, ?_, _, rfl⟩⟩
    · simp only [okb, badb, gdt, sl0, slS, eSlot_e, eSlotK_some, eLit_e, opd_val, opd_sl, vw_val, vw_sl, er_fz, er_ls, two_e, twoK_e, twoL_e, twoM_e, valK_e, tru_e, truK_e, truM_e, blK_e, boF_e, boK_e, boM_e, boN_tt, boN_tf, boN_ft, boN_ff, notF_e, notK_e, iteF_e, iteK_t, iteK_f, negF_e, negK_e, negM_e, nilA_e, consA_e, consA1_e, consA2_e, consA3_e, kept_t, kept_f, keptK_e, settle_val, settle_sl, frzSlot_fz, frzSlot_ls, tupF_e, lstF_e, tupK_e, dsK_e, datas_nil, datas_cons, vws_nil, vws_cons, vwsK_e, biF_e, biK_e, biM_e, rngF_e, rngK_e, rngM_e, itsK_e, callF_e, callK_e, callN_none, callN_some, argsOf_none, argsOf_zero, argsOf_succ, argL_e, noneO_e, someO_e, someK_e, someM_e, sliF_e, sliK_e, sliL1_e, sliL2_e, sliM_e, nxS_e, bkS_e, ctS_e, seqS_e, seqK_nx, seqK_rt, seqK_bk, seqK_ct, ifS_e, ifK_t, ifK_f, exS_e, exK_e, retS_e, retK_e, retL_e, retN_e, give_val, give_sl, giveSlot_fz, giveSlot_ls, take_tv, take_ts, take_f, takeK_e, nxK_e, setS_e, setK_e, setL2_e, asgS_e, asgK_e, asgL_e, nameG_e, nilG_e, consG_e, stS_e, stK_e, stL1_e, stL2_e, stL3_e, stM_e, intOf_e, setAt_e, setAtN_e, intAt_e, intAtM_e, augS_e, augK_e, augL2_e, augKey_e, augO_e, augL3_e, augP_e, augN_e, augN1_e, augN2_e, augN3_e, nilL_e, consL_e, consL1_e, consL2_e, consL3_e, parS_e, parK_e, putL_nil, putL_cons, whlK_t, whlK_f, whlL_nx, whlL_ct, whlL_bk, whlL_rt, forK1_e, forK2_nx, forK2_ct, forK2_bk, forK2_rt, forS_e, forK_e, itF_e, itK_e, itL_e, itM_e, items_tup, items_lst, items_str, compF_e, compK2_e, yesT_e, truth_bl, eqS_int, neS_int, ltS_int, gtS_int, leS_int, geS_int, addS_int, subS_int, mulS_int, divS_int, modS_int, intS_int, idx_ls, idx_lst, idx_tup, idxM_e, idxD_e, atI0, atI1, atI2, atI3, slice_tup, slice_lst, ers_nil, ers_cons, ers_map, cat_lst, cat_tup, set_0, set_1, set_2, runK_rt, runK_nx, runL_e, lent_none, lent_some, wipe_n, wipe_c, back_n, back_c, of_some, mthF_e, mthL_e, mthK_e, mthM_e, mthN_e, napp_e, qSlot_e, fzOf_e, rgLF_e, rgLK_e, rgLM_e, putS, Option.map_some, List.set_cons_zero, List.set_cons_succ, List.map_cons, List.map_nil, List.length_cons, List.length_nil, List.length_set, List.mem_cons, List.not_mem_nil, or_false, Nat.reduceAdd, Nat.reduceLT, Nat.reduceEqDiff, List.nil_append, List.cons_append, List.replicate, Nat.reduceSub, not_false_eq_true, decide_true, Bool.and_self, Int.reduceLT, Int.reduceLE, idx_room (room_get hv), idx_way, eq_bar, barAt_get hv]
    · rw [keepIf_nat, h]; rfl
    · rw [keepIf_nat, h]; rfl
  obtain ⟨τ', e, o, rfl⟩ := comp_map (io := []) (vs := [10]) (own := false) (g := nameG [] 10) (c := tru (two (two (two (eSlot 5) (eSlot 10) idxS) (eLit (.int 1)) idxS) (eLit (.str "bar")) eqS)) (f := eSlot 10) (fun τ => ∃ o, τ = [sc, b, o2, some (.fz (dunD rs k)), o4, some (.fz (.tup (rs.map roomD))), some (.fz (.tup (natsD lot))), o7, o8, o9, o])
    (keepIf (barAt rs)) (fun d => ∃ v, v < rs.length ∧ d = natD v) turn (natsD l) [] [sc, b, o2, some (.fz (dunD rs k)), o4, some (.fz (.tup (rs.map roomD))), some (.fz (.tup (natsD lot))), o7, o8, o9, o10]
    (fun d hd => by unfold natsD at hd; obtain ⟨u, hu, e⟩ := List.mem_map.mp hd; exact ⟨u, hl u hu, e.symm⟩) ⟨_, rfl⟩ (by
      unfold natsD
      rw [List.length_map, List.length_nil]
      have : (2000 : Nat) ≤ sizeLine := by decide
      omega)
  rw [filter_fz, List.nil_append] at e
  exact ⟨_, e, o, rfl⟩
end K15

namespace K15
open PySem PySem.Spec PyProof.Rows L2 Pf
def body2G : FS := (seqS (setS [] 9 false (callF 2 none f__law_up (consA [] false (eSlot 3) (consA [] false (eSlot 8) nilA))))
  (seqS (ifS (notF (callF 2 none f__law_alike (consA [] false (callF 2 none f_branch_of (consA [] false (eSlot 3) (consA [] false (eSlot 8) nilA))) (consA [] false (biF (consA [] true (callF 2 none f__law_branch (consA [] false (eSlot 3) (consA [] false (eSlot 8) nilA))) nilA) tupS) nilA)))) (seqS (retS [] (eLit (.bl false)))
  nxS) nxS)
  (seqS (ifS (notF (callF 2 none f__law_alike (consA [] false (callF 2 none f_way_to (consA [] false (eSlot 3) (consA [] false (eSlot 8) nilA))) (consA [] false (biF (consA [] true (biF (consA [] true (eSlot 9) nilA) sortS) nilA) tupS) nilA)))) (seqS (retS [] (eLit (.bl false)))
  nxS) nxS)
  (seqS (ifS (notF (callF 2 none f__law_alike (consA [] false (callF 2 none f_way_has_bar (consA [] false (eSlot 3) (consA [] false (eSlot 8) nilA))) (consA [] false (two (compF [] [10] false (itF [] (eSlot 9)) (nameG [] 10) (tru (two (two (two (eSlot 5) (eSlot 10) idxS) (eLit (.int 1)) idxS) (eLit (.str "bar")) eqS)) (eSlot 10)) (lstF nilA) neS) nilA)))) (seqS (retS [] (eLit (.bl false)))
  nxS) nxS)
  nxS))))
def bodyG : FS := (seqS (setS [] 3 false (callF 2 (some 0) f__law_dungeon (consA [] true (eSlot 1) (consA [] false (callF 2 (some 0) f__law_some (consA [] true (eSlot 1) (consA [] false (lstF (consA [] false (eLit (.int 4)) (consA [] false (eLit (.int 10)) (consA [] false (eLit (.int 7)) nilA)))) nilA))) nilA))))
  (seqS (asgS [] (tupG 3 (consG (nameG [] 4) (consG (nameG [] 5) (consG (nameG [] 6) nilG)))) (tupF (consA [] false (biF (consA [] true (eSlot 3) nilA) reprS) (consA [] false (two (eSlot 3) (eLit (.int 0)) idxS) (consA [] false (callF 2 (some 0) f__law_any_lot (consA [] true (eSlot 1) (consA [] false (biF (consA [] true (two (eSlot 3) (eLit (.int 0)) idxS) nilA) lenS) nilA))) nilA)))))
  (seqS (setS [] 7 false (compF [] [8] false (rngF range1S (consA [] true (biF (consA [] true (eSlot 5) nilA) lenS) nilA)) (nameG [] 8) (tru (boF false (two (eSlot 8) (eSlot 6) (memS true)) (two (two (two (eSlot 5) (eSlot 8) idxS) (eLit (.int 0)) idxS) (eSlot 6) (memS false)))) (eSlot 8)))
  (seqS (ifS (boF true (notF (callF 2 none f__law_alike (consA [] false (callF 2 none f_rim_of (consA [] false (eSlot 3) (consA [] false (eSlot 6) nilA))) (consA [] false (biF (consA [] true (eSlot 7) nilA) tupS) nilA)))) (notF (callF 2 none f__law_alike (consA [] false (callF 2 none f_way_has_bar (consA [] false (eSlot 3) (consA [] false (eLit .non) nilA))) (consA [] false (eLit (.bl false)) nilA))))) (seqS (retS [] (eLit (.bl false)))
  nxS) nxS)
  (seqS (forS (itF [] (two (callF 2 (some 0) f__law_mixed (consA [] true (eSlot 1) (consA [] false (rgLF mkL (biF (consA [] true (eSlot 5) nilA) lenS)) nilA))) (lstF (consA [] false (eLit (.int 0)) nilA)) addS)) (nameG [] 8)
  body2G)
  (seqS (ifS (boF true (notF (callF 2 none f__law_alike (consA [] false (callF 2 none f_rim_of (consA [] false (eSlot 3) (consA [] false (eSlot 6) nilA))) (consA [] false (biF (consA [] true (eSlot 7) nilA) tupS) nilA)))) (two (biF (consA [] true (eSlot 3) nilA) reprS) (eSlot 4) neS)) (seqS (retS [] (eLit (.bl false)))
  nxS) nxS)
  nxS))))))
def lawG : FS := (seqS (setS [] 1 true (callF 1 none f__law_bag (consA [] false (eSlot 0) nilA)))
  (seqS (forS (rngF range1S (consA [] true (eLit (.int 4)) nilA)) (nameG [] 2)
  bodyG)
  (seqS (retS [] (eLit (.bl true)))
  nxS)))
theorem law_eq : g_law = lawG := rfl
theorem not_tt : (!true) = false := rfl
theorem ne_nil (l : List Nat) : neS (.fz (.lst (natsD l))) (.fz (.lst [])) = .ok (.fz (.bl (decide (l ≠ [])))) := by
  show gd (depOk (.lst (natsD l)) (.lst [])) (OV.fz (.bl (!D.eqv (.lst (natsD l)) (.lst [])))) = _
  have e1 : depOk (.lst (natsD l)) (.lst []) = true := decide_eq_true (by
    have : D.dep (.lst []) ≤ 60 := by unfold D.dep D.py D.pys; simp [PyData.depth, PyData.depthAll]
    omega)
  have e2 : D.eqv (.lst (natsD l)) (.lst []) = decide (l = []) := by
    unfold D.eqv natsD
    cases l with
    | nil => simp [D.py, D.pys, PyData.eqv, PyData.eqvAll]
    | cons n l => simp [D.py, D.pys, PyData.eqv, PyData.eqvAll]
  rw [e1, e2]
  by_cases h : l = [] <;> simp [h]
theorem any_filter (p : Nat → Bool) (l : List Nat) : l.any p = decide (l.filter p ≠ []) := by
  induction l with
  | nil => simp
  | cons x l ih =>
    rw [List.any_cons, List.filter_cons]
    cases h : p x with
    | true => simp
    | false => simp only [Bool.false_or, Bool.false_eq_true, if_false]; exact ih
theorem below_le {rs : List Room} {v : Nat} : (below rs v).length ≤ rs.length ∧ ∀ x ∈ below rs v, x < rs.length := by
  unfold below
  refine ⟨Nat.le_trans (List.length_filter_le _ _) (by rw [List.length_range]; exact Nat.le_refl _), fun x hx => ?_⟩
  exact List.mem_range.mp (List.mem_filter.mp hx).1
theorem body2_spec {rs : List Room} {k : Int} {lot : List Nat} {sc b o2 o4 o7 o9 : Option OV} {v : Nat} (g : Dun rs) (hv : v < rs.length) : ∃ o9', body2G [sc, b, o2, some (.fz (dunD rs k)), o4, some (.fz (.tup (rs.map roomD))), some (.fz (.tup (natsD lot))), o7, some (.fz (natD v)), o9, none] =
    .ok (.nx, [sc, b, o2, some (.fz (dunD rs k)), o4, some (.fz (.tup (rs.map roomD))), some (.fz (.tup (natsD lot))), o7, some (.fz (natD v)), o9', none]) := by
  have hl := g.len
  have hul : (up rs v).length ≤ v + 1 := upL_len rs _ _
  obtain ⟨τ', e, o, rfl⟩ := own_bars (rs := rs) (k := k) (lot := lot) (l := up rs v) (sc := sc) (b := b) (o2 := o2) (o4 := o4) (o7 := o7) (o8 := some (.fz (natD v))) (o9 := some (.fz (.lst (natsD (up rs v))))) (o10 := none) (fun u hu => up_lt g hv hu) (by omega)
  obtain ⟨m, hm, hmp⟩ := srt_nats (up rs v)
  have hml : m.length ≤ 1000 := by rw [hmp.length_eq]; omega
  have hw := way_to_spec (k := k) g hv
  have hb := bar_spec (k := k) g hv
  rw [any_filter] at hb
  have hs := sortS_nats (up rs v) (by omega)
  rw [← sortS_fz] at hs
  rw [hm] at hs hw
  have t1 : Told (.tup (natsD (below rs v))) := told_nats (fun x hx => by have := (below_le (rs := rs) (v := v)).2 x hx; omega) (by have := (below_le (rs := rs) (v := v)).1; omega)
  have t2 : Told (.tup (natsD m)) := told_nats (fun x hx => by have := up_lt g hv (hmp.subset hx); omega) hml
  have hz : ∀ x : OV, ([10].all (noOwn [sc, b, o2, some (.fz (dunD rs k)), o4, some (.fz (.tup (rs.map roomD))), some (.fz (.tup (natsD lot))), o7, some (.fz (natD v)), some x, none]) && [10].all (fun i => decide (i ∉ ([] : List Nat)))) = true := fun _ => rfl
  refine ⟨some (.fz (.lst (natsD (up rs v)))), ?_⟩
  unfold body2G
  simp only [okb, badb, gdt, sl0, slS, eSlot_e, eSlotK_some, eLit_e, opd_val, opd_sl, vw_val, vw_sl, er_fz, er_ls, two_e, twoK_e, twoL_e, twoM_e, valK_e, tru_e, truK_e, truM_e, blK_e, boF_e, boK_e, boM_e, boN_tt, boN_tf, boN_ft, boN_ff, notF_e, notK_e, iteF_e, iteK_t, iteK_f, negF_e, negK_e, negM_e, nilA_e, consA_e, consA1_e, consA2_e, consA3_e, kept_t, kept_f, keptK_e, settle_val, settle_sl, frzSlot_fz, frzSlot_ls, tupF_e, lstF_e, tupK_e, dsK_e, datas_nil, datas_cons, vws_nil, vws_cons, vwsK_e, biF_e, biK_e, biM_e, rngF_e, rngK_e, rngM_e, itsK_e, callF_e, callK_e, callN_none, callN_some, argsOf_none, argsOf_zero, argsOf_succ, argL_e, noneO_e, someO_e, someK_e, someM_e, sliF_e, sliK_e, sliL1_e, sliL2_e, sliM_e, nxS_e, bkS_e, ctS_e, seqS_e, seqK_nx, seqK_rt, seqK_bk, seqK_ct, ifS_e, ifK_t, ifK_f, exS_e, exK_e, retS_e, retK_e, retL_e, retN_e, give_val, give_sl, giveSlot_fz, giveSlot_ls, take_tv, take_ts, take_f, takeK_e, nxK_e, setS_e, setK_e, setL2_e, asgS_e, asgK_e, asgL_e, nameG_e, nilG_e, consG_e, stS_e, stK_e, stL1_e, stL2_e, stL3_e, stM_e, intOf_e, setAt_e, setAtN_e, intAt_e, intAtM_e, augS_e, augK_e, augL2_e, augKey_e, augO_e, augL3_e, augP_e, augN_e, augN1_e, augN2_e, augN3_e, nilL_e, consL_e, consL1_e, consL2_e, consL3_e, parS_e, parK_e, putL_nil, putL_cons, whlK_t, whlK_f, whlL_nx, whlL_ct, whlL_bk, whlL_rt, forK1_e, forK2_nx, forK2_ct, forK2_bk, forK2_rt, forS_e, forK_e, itF_e, itK_e, itL_e, itM_e, items_tup, items_lst, items_str, compF_e, compK2_e, yesT_e, truth_bl, eqS_int, neS_int, ltS_int, gtS_int, leS_int, geS_int, addS_int, subS_int, mulS_int, divS_int, modS_int, intS_int, idx_ls, idx_lst, idx_tup, idxM_e, idxD_e, atI0, atI1, atI2, atI3, slice_tup, slice_lst, ers_nil, ers_cons, ers_map, cat_lst, cat_tup, set_0, set_1, set_2, runK_rt, runK_nx, runL_e, lent_none, lent_some, wipe_n, wipe_c, back_n, back_c, of_some, mthF_e, mthL_e, mthK_e, mthM_e, mthN_e, napp_e, qSlot_e, fzOf_e, rgLF_e, rgLK_e, rgLM_e, putS, Option.map_some, List.set_cons_zero, List.set_cons_succ, List.map_cons, List.map_nil, List.length_cons, List.length_nil, List.length_set, List.mem_cons, List.not_mem_nil, or_false, Nat.reduceAdd, Nat.reduceLT, Nat.reduceEqDiff, List.nil_append, List.cons_append, List.replicate, Nat.reduceSub, not_false_eq_true, decide_true, Bool.and_self, Int.reduceLT, Int.reduceLE, callM_e, alike_eq, lup_spec g hv, branch_spec g hv, law_branch_spec g hv, hw, hb, hs, tupS_fz, alike_same _ t1, alike_same _ t2, not_tt, compK_e _ _ _ _ _ _ _ _ (hz _), e, ne_nil, alike_same _ (told_bl _), size_ok 0 (by decide)]
  all_goals rfl
def isFz (o : Option OV) : Prop := o = none ∨ ∃ d, o = some (.fz d)
theorem loop2_spec {rs : List Room} {k : Int} {lot : List Nat} {sc b o2 o4 o7 : Option OV} (g : Dun rs) (l : List Nat) : ∀ (o8 o9 : Option OV), isFz o8 → (∀ x ∈ l, x < rs.length) → ∃ o8' o9', forL (nameG [] 8) body2G (natsD l) [sc, b, o2, some (.fz (dunD rs k)), o4, some (.fz (.tup (rs.map roomD))), some (.fz (.tup (natsD lot))), o7, o8, o9, none] =
    .ok (.nx, [sc, b, o2, some (.fz (dunD rs k)), o4, some (.fz (.tup (rs.map roomD))), some (.fz (.tup (natsD lot))), o7, o8', o9', none]) ∧ isFz o8' := by
  induction l with
  | nil => intro o8 o9 h8 _; exact ⟨o8, o9, rfl, h8⟩
  | cons v l ih =>
    intro o8 o9 h8 hl
    obtain ⟨o9', e1⟩ := body2_spec (k := k) (lot := lot) (sc := sc) (b := b) (o2 := o2) (o4 := o4) (o7 := o7) (o9 := o9) g (hl v List.mem_cons_self)
    obtain ⟨o8', o9'', e2, h⟩ := ih (some (.fz (natD v))) o9' (.inr ⟨_, rfl⟩) fun x hx => hl x (List.mem_cons_of_mem _ hx)
    refine ⟨o8', o9'', ?_, h⟩
    have hcons : natsD (v :: l) = natD v :: natsD l := rfl
    rw [hcons, forL_cons]
    simp only [okb, badb, gdt, sl0, slS, eSlot_e, eSlotK_some, eLit_e, opd_val, opd_sl, vw_val, vw_sl, er_fz, er_ls, two_e, twoK_e, twoL_e, twoM_e, valK_e, tru_e, truK_e, truM_e, blK_e, boF_e, boK_e, boM_e, boN_tt, boN_tf, boN_ft, boN_ff, notF_e, notK_e, iteF_e, iteK_t, iteK_f, negF_e, negK_e, negM_e, nilA_e, consA_e, consA1_e, consA2_e, consA3_e, kept_t, kept_f, keptK_e, settle_val, settle_sl, frzSlot_fz, frzSlot_ls, tupF_e, lstF_e, tupK_e, dsK_e, datas_nil, datas_cons, vws_nil, vws_cons, vwsK_e, biF_e, biK_e, biM_e, rngF_e, rngK_e, rngM_e, itsK_e, callF_e, callK_e, callN_none, callN_some, argsOf_none, argsOf_zero, argsOf_succ, argL_e, noneO_e, someO_e, someK_e, someM_e, sliF_e, sliK_e, sliL1_e, sliL2_e, sliM_e, nxS_e, bkS_e, ctS_e, seqS_e, seqK_nx, seqK_rt, seqK_bk, seqK_ct, ifS_e, ifK_t, ifK_f, exS_e, exK_e, retS_e, retK_e, retL_e, retN_e, give_val, give_sl, giveSlot_fz, giveSlot_ls, take_tv, take_ts, take_f, takeK_e, nxK_e, setS_e, setK_e, setL2_e, asgS_e, asgK_e, asgL_e, nameG_e, nilG_e, consG_e, stS_e, stK_e, stL1_e, stL2_e, stL3_e, stM_e, intOf_e, setAt_e, setAtN_e, intAt_e, intAtM_e, augS_e, augK_e, augL2_e, augKey_e, augO_e, augL3_e, augP_e, augN_e, augN1_e, augN2_e, augN3_e, nilL_e, consL_e, consL1_e, consL2_e, consL3_e, parS_e, parK_e, putL_nil, putL_cons, whlK_t, whlK_f, whlL_nx, whlL_ct, whlL_bk, whlL_rt, forK1_e, forK2_nx, forK2_ct, forK2_bk, forK2_rt, forS_e, forK_e, itF_e, itK_e, itL_e, itM_e, items_tup, items_lst, items_str, compF_e, compK2_e, yesT_e, truth_bl, eqS_int, neS_int, ltS_int, gtS_int, leS_int, geS_int, addS_int, subS_int, mulS_int, divS_int, modS_int, intS_int, idx_ls, idx_lst, idx_tup, idxM_e, idxD_e, atI0, atI1, atI2, atI3, slice_tup, slice_lst, ers_nil, ers_cons, ers_map, cat_lst, cat_tup, set_0, set_1, set_2, runK_rt, runK_nx, runL_e, lent_none, lent_some, wipe_n, wipe_c, back_n, back_c, of_some, mthF_e, mthL_e, mthK_e, mthM_e, mthN_e, napp_e, qSlot_e, fzOf_e, rgLF_e, rgLK_e, rgLM_e, putS, Option.map_some, List.set_cons_zero, List.set_cons_succ, List.map_cons, List.map_nil, List.length_cons, List.length_nil, List.length_set, List.mem_cons, List.not_mem_nil, or_false, Nat.reduceAdd, Nat.reduceLT, Nat.reduceEqDiff, List.nil_append, List.cons_append, List.replicate, Nat.reduceSub, not_false_eq_true, decide_true, Bool.and_self, Int.reduceLT, Int.reduceLE, e1, e2]
def P (ns : List Int) (sc : Option OV) (τ : T) : Prop := ∃ b o2 o3 o4 o5 o6 o7 o8 o9, τ = [sc, some b, o2, o3, o4, o5, o6, o7, o8, o9, none] ∧ Bag ns b ∧ isFz o8
theorem mkL_e (ds : List D) : mkL ds = .ls (ds.map OV.fz) := (rfl)
theorem ne_text (s : Str) : neS (.fz (.str s)) (.fz (.str s)) = .ok (.fz (.bl false)) := by
  show gd (depOk (.str s) (.str s)) (OV.fz (.bl (!D.eqv (.str s) (.str s)))) = _
  have e : depOk (.str s) (.str s) = true := decide_eq_true (by rw [dep_str]; simp)
  rw [e, eqv_self]
  rfl
theorem rim_le {rs : List Room} {lot : List Nat} : ((List.range rs.length).filter (inRim rs lot)).length ≤ rs.length ∧ ∀ x ∈ (List.range rs.length).filter (inRim rs lot), x < rs.length :=
  ⟨Nat.le_trans (List.length_filter_le _ _) (by rw [List.length_range]; exact Nat.le_refl _), fun x hx => List.mem_range.mp (List.mem_filter.mp hx).1⟩
theorem body_spec {ns : List Int} {sc : Option OV} (hl : ns.length ≤ 63) (τ : T) (h : P ns sc τ) : ∃ τ', bodyG τ = .ok (.nx, τ') ∧ P ns sc τ' := by
  obtain ⟨b0, o2, o3, o4, o5, o6, o7, o8, o9, rfl, hb0, h8⟩ := h
  obtain ⟨md, b1, e1, hb1, hmd⟩ := some_spec (ds := [.int 4, .int 10, .int 7]) hl hb0 (by simp) (by simp)
  have hm : ∃ z : Int, md = .int z ∧ 1 ≤ z ∧ z ≤ 10 := by
    simp only [List.mem_cons, List.not_mem_nil, or_false] at hmd
    rcases hmd with e | e | e <;> exact ⟨_, e, by omega, by omega⟩
  obtain ⟨most, rfl, hm1, hm2⟩ := hm
  obtain ⟨rs, k, b2, e2, hb2, g, k0, k6⟩ := dungeon_spec hl hm1 hm2 hb1
  have hrl := g.len
  obtain ⟨lot, b3, e3, hb3, hll, hlm⟩ := lot_spec (n := rs.length) hl (by omega) hb2
  obtain ⟨τ1, e4, q4, rfl⟩ := own_rim (rs := rs) (k := k) (lot := lot) (sc := sc) (b := some b3) (o2 := o2) (o4 := some (.fz (.str (dunD rs k).py.shown))) (o7 := o7) (o8 := o8) (o9 := o9) (o10 := none) g
  obtain ⟨mx, b4, e5, hb4, hmx, hmem⟩ := mixed_spec (l := List.range rs.length) hl (by rw [List.length_range]; omega) hb3
  have hall : ∀ x ∈ mx ++ [0], x < rs.length := fun x hx => by
    rcases List.mem_append.mp hx with h | h
    · exact List.mem_range.mp (hmem x h)
    · have : x = 0 := by simpa using h
      have := g.pos
      omega
  obtain ⟨o8', o9', e6, h8'⟩ := loop2_spec (k := k) (lot := lot) (sc := sc) (b := some b4) (o2 := o2) (o4 := some (.fz (.str (dunD rs k).py.shown))) (o7 := some (.fz (.lst (natsD ((List.range rs.length).filter (inRim rs lot)))))) g (mx ++ [0]) o8 o9 h8 hall
  have htold := told_dun g k0 k6
  have trim : Told (.tup (natsD ((List.range rs.length).filter (inRim rs lot)))) := told_nats (fun x hx => by have := (rim_le (rs := rs) (lot := lot)).2 x hx; omega) (by have := (rim_le (rs := rs) (lot := lot)).1; omega)
  have hz : ∀ (o4 o7 : Option OV), ([8].all (noOwn [sc, some b3, o2, some (.fz (dunD rs k)), o4, some (.fz (.tup (rs.map roomD))), some (.fz (.tup (natsD lot))), o7, o8, o9, none]) && [8].all (fun i => decide (i ∉ ([] : List Nat)))) = true := fun _ _ => by
    rcases h8 with e | ⟨d, e⟩ <;> subst e <;> rfl
  have hcat : natsD mx ++ [.int 0] = natsD (mx ++ [0]) := by unfold natsD; rw [List.map_append]; rfl
  have hsz : (natsD mx).length + 1 ≤ 1000000 := by unfold natsD; rw [List.length_map, hmx, List.length_range]; omega
  have hrg : rgOk (rs.length : Int) = true := decide_eq_true (by omega)
  obtain ⟨m0, s0, p0, rfl, _⟩ := hb0
  obtain ⟨m1, s1, p1, rfl, _⟩ := hb1
  obtain ⟨m2, s2, p2, rfl, _⟩ := hb2
  have hb3' := hb3
  obtain ⟨m3, s3, p3, rfl, _⟩ := hb3
  refine ⟨[sc, some b4, o2, some (.fz (dunD rs k)), some (.fz (.str (dunD rs k).py.shown)), some (.fz (.tup (rs.map roomD))), some (.fz (.tup (natsD lot))), some (.fz (.lst (natsD ((List.range rs.length).filter (inRim rs lot))))), o8', o9', none], ?_, b4, _, _, _, _, _, _, _, _, rfl, hb4, h8'⟩
  unfold bodyG
  simp only [okb, badb, gdt, sl0, slS, eSlot_e, eSlotK_some, eLit_e, opd_val, opd_sl, vw_val, vw_sl, er_fz, er_ls, two_e, twoK_e, twoL_e, twoM_e, valK_e, tru_e, truK_e, truM_e, blK_e, boF_e, boK_e, boM_e, boN_tt, boN_tf, boN_ft, boN_ff, notF_e, notK_e, iteF_e, iteK_t, iteK_f, negF_e, negK_e, negM_e, nilA_e, consA_e, consA1_e, consA2_e, consA3_e, kept_t, kept_f, keptK_e, settle_val, settle_sl, frzSlot_fz, frzSlot_ls, tupF_e, lstF_e, tupK_e, dsK_e, datas_nil, datas_cons, vws_nil, vws_cons, vwsK_e, biF_e, biK_e, biM_e, rngF_e, rngK_e, rngM_e, itsK_e, callF_e, callK_e, callN_none, callN_some, argsOf_none, argsOf_zero, argsOf_succ, argL_e, noneO_e, someO_e, someK_e, someM_e, sliF_e, sliK_e, sliL1_e, sliL2_e, sliM_e, nxS_e, bkS_e, ctS_e, seqS_e, seqK_nx, seqK_rt, seqK_bk, seqK_ct, ifS_e, ifK_t, ifK_f, exS_e, exK_e, retS_e, retK_e, retL_e, retN_e, give_val, give_sl, giveSlot_fz, giveSlot_ls, take_tv, take_ts, take_f, takeK_e, nxK_e, setS_e, setK_e, setL2_e, asgS_e, asgK_e, asgL_e, nameG_e, nilG_e, consG_e, stS_e, stK_e, stL1_e, stL2_e, stL3_e, stM_e, intOf_e, setAt_e, setAtN_e, intAt_e, intAtM_e, augS_e, augK_e, augL2_e, augKey_e, augO_e, augL3_e, augP_e, augN_e, augN1_e, augN2_e, augN3_e, nilL_e, consL_e, consL1_e, consL2_e, consL3_e, parS_e, parK_e, putL_nil, putL_cons, whlK_t, whlK_f, whlL_nx, whlL_ct, whlL_bk, whlL_rt, forK1_e, forK2_nx, forK2_ct, forK2_bk, forK2_rt, forS_e, forK_e, itF_e, itK_e, itL_e, itM_e, items_tup, items_lst, items_str, compF_e, compK2_e, yesT_e, truth_bl, eqS_int, neS_int, ltS_int, gtS_int, leS_int, geS_int, addS_int, subS_int, mulS_int, divS_int, modS_int, intS_int, idx_ls, idx_lst, idx_tup, idxM_e, idxD_e, atI0, atI1, atI2, atI3, slice_tup, slice_lst, ers_nil, ers_cons, ers_map, cat_lst, cat_tup, set_0, set_1, set_2, runK_rt, runK_nx, runL_e, lent_none, lent_some, wipe_n, wipe_c, back_n, back_c, of_some, mthF_e, mthL_e, mthK_e, mthM_e, mthN_e, napp_e, qSlot_e, fzOf_e, rgLF_e, rgLK_e, rgLM_e, putS, Option.map_some, List.set_cons_zero, List.set_cons_succ, List.map_cons, List.map_nil, List.length_cons, List.length_nil, List.length_set, List.mem_cons, List.not_mem_nil, or_false, Nat.reduceAdd, Nat.reduceLT, Nat.reduceEqDiff, List.nil_append, List.cons_append, List.replicate, Nat.reduceSub, not_false_eq_true, decide_true, Bool.and_self, Int.reduceLT, Int.reduceLE, argL_bag, callM_e, some_eq, alike_eq, e1, e2, e3, repr_ok _ htold, idx_dun0, len_tupD, List.length_map, tupG_e, range_nat _ (show rs.length ≤ 1000 by omega), rangeL_nat, compK_e _ _ _ _ _ _ _ _ (hz _ _), e4, rim_spec g, tupS_fz, alike_same _ trim, bar_none, alike_same _ (told_bl false), not_tt, hrg, mkL_e, Int.toNat_natCast, e5, hcat, size_ok _ hsz, e6, ne_text, size_ok 3 (by decide), size_ok 2 (by decide), size_ok 1 (by decide)]
theorem loop_spec {ns : List Int} {sc : Option OV} (hl : ns.length ≤ 63) (ds : List D) : ∀ τ : T, P ns sc τ → ∃ τ', forL (nameG [] 2) bodyG ds τ = .ok (.nx, τ') ∧ P ns sc τ' := by
  induction ds with
  | nil => intro τ h; exact ⟨τ, rfl, h⟩
  | cons d ds ih =>
    intro τ h
    obtain ⟨b, o2, o3, o4, o5, o6, o7, o8, o9, rfl, hb, h8⟩ := h
    obtain ⟨τ1, e1, h1⟩ := body_spec (sc := sc) hl [sc, some b, some (.fz d), o3, o4, o5, o6, o7, o8, o9, none] ⟨b, _, _, _, _, _, _, _, _, rfl, hb, h8⟩
    obtain ⟨τ2, e2, h2⟩ := ih τ1 h1
    refine ⟨τ2, ?_, h2⟩
    rw [forL_cons]
    simp only [okb, badb, gdt, sl0, slS, eSlot_e, eSlotK_some, eLit_e, opd_val, opd_sl, vw_val, vw_sl, er_fz, er_ls, two_e, twoK_e, twoL_e, twoM_e, valK_e, tru_e, truK_e, truM_e, blK_e, boF_e, boK_e, boM_e, boN_tt, boN_tf, boN_ft, boN_ff, notF_e, notK_e, iteF_e, iteK_t, iteK_f, negF_e, negK_e, negM_e, nilA_e, consA_e, consA1_e, consA2_e, consA3_e, kept_t, kept_f, keptK_e, settle_val, settle_sl, frzSlot_fz, frzSlot_ls, tupF_e, lstF_e, tupK_e, dsK_e, datas_nil, datas_cons, vws_nil, vws_cons, vwsK_e, biF_e, biK_e, biM_e, rngF_e, rngK_e, rngM_e, itsK_e, callF_e, callK_e, callN_none, callN_some, argsOf_none, argsOf_zero, argsOf_succ, argL_e, noneO_e, someO_e, someK_e, someM_e, sliF_e, sliK_e, sliL1_e, sliL2_e, sliM_e, nxS_e, bkS_e, ctS_e, seqS_e, seqK_nx, seqK_rt, seqK_bk, seqK_ct, ifS_e, ifK_t, ifK_f, exS_e, exK_e, retS_e, retK_e, retL_e, retN_e, give_val, give_sl, giveSlot_fz, giveSlot_ls, take_tv, take_ts, take_f, takeK_e, nxK_e, setS_e, setK_e, setL2_e, asgS_e, asgK_e, asgL_e, nameG_e, nilG_e, consG_e, stS_e, stK_e, stL1_e, stL2_e, stL3_e, stM_e, intOf_e, setAt_e, setAtN_e, intAt_e, intAtM_e, augS_e, augK_e, augL2_e, augKey_e, augO_e, augL3_e, augP_e, augN_e, augN1_e, augN2_e, augN3_e, nilL_e, consL_e, consL1_e, consL2_e, consL3_e, parS_e, parK_e, putL_nil, putL_cons, whlK_t, whlK_f, whlL_nx, whlL_ct, whlL_bk, whlL_rt, forK1_e, forK2_nx, forK2_ct, forK2_bk, forK2_rt, forS_e, forK_e, itF_e, itK_e, itL_e, itM_e, items_tup, items_lst, items_str, compF_e, compK2_e, yesT_e, truth_bl, eqS_int, neS_int, ltS_int, gtS_int, leS_int, geS_int, addS_int, subS_int, mulS_int, divS_int, modS_int, intS_int, idx_ls, idx_lst, idx_tup, idxM_e, idxD_e, atI0, atI1, atI2, atI3, slice_tup, slice_lst, ers_nil, ers_cons, ers_map, cat_lst, cat_tup, set_0, set_1, set_2, runK_rt, runK_nx, runL_e, lent_none, lent_some, wipe_n, wipe_c, back_n, back_c, of_some, mthF_e, mthL_e, mthK_e, mthM_e, mthN_e, napp_e, qSlot_e, fzOf_e, rgLF_e, rgLK_e, rgLM_e, putS, Option.map_some, List.set_cons_zero, List.set_cons_succ, List.map_cons, List.map_nil, List.length_cons, List.length_nil, List.length_set, List.mem_cons, List.not_mem_nil, or_false, Nat.reduceAdd, Nat.reduceLT, Nat.reduceEqDiff, List.nil_append, List.cons_append, List.replicate, Nat.reduceSub, not_false_eq_true, decide_true, Bool.and_self, Int.reduceLT, Int.reduceLE, e1, e2]
theorem pure_law (ns : List Int) (hl : ns.length ≤ 63) (hb : ∀ k ∈ ns, Builtin.Int.intBits k ≤ 1048576) : ∃ o, f_law [scriptD ns] = .ok (.fz (.bl true), o) := by
  obtain ⟨b, ns', e1, hb, hl'⟩ := bag_spec hl
  obtain ⟨τ', e2, b', o2, o3, o4, o5, o6, o7, o8, o9, rfl, hb', h8⟩ := loop_spec (sc := some (scriptD ns)) hl' (rangeL 0 4 1) [some (scriptD ns), some b, none, none, none, none, none, none, none, none, none] ⟨b, _, _, _, _, _, _, _, _, rfl, hb, .inl rfl⟩
  refine ⟨.fz .non, ?_⟩
  unfold f_law
  rw [law_eq]
  unfold lawG
  rw [runF_e]
  case h => rfl
  obtain ⟨m0, s0, p0, rfl, _⟩ := hb
  have hr : range1S [.fz (.int 4)] = .ok (rangeL 0 4 1) := rfl
  unfold scriptD at e1 e2 ⊢
  simp only [okb, badb, gdt, sl0, slS, eSlot_e, eSlotK_some, eLit_e, opd_val, opd_sl, vw_val, vw_sl, er_fz, er_ls, two_e, twoK_e, twoL_e, twoM_e, valK_e, tru_e, truK_e, truM_e, blK_e, boF_e, boK_e, boM_e, boN_tt, boN_tf, boN_ft, boN_ff, notF_e, notK_e, iteF_e, iteK_t, iteK_f, negF_e, negK_e, negM_e, nilA_e, consA_e, consA1_e, consA2_e, consA3_e, kept_t, kept_f, keptK_e, settle_val, settle_sl, frzSlot_fz, frzSlot_ls, tupF_e, lstF_e, tupK_e, dsK_e, datas_nil, datas_cons, vws_nil, vws_cons, vwsK_e, biF_e, biK_e, biM_e, rngF_e, rngK_e, rngM_e, itsK_e, callF_e, callK_e, callN_none, callN_some, argsOf_none, argsOf_zero, argsOf_succ, argL_e, noneO_e, someO_e, someK_e, someM_e, sliF_e, sliK_e, sliL1_e, sliL2_e, sliM_e, nxS_e, bkS_e, ctS_e, seqS_e, seqK_nx, seqK_rt, seqK_bk, seqK_ct, ifS_e, ifK_t, ifK_f, exS_e, exK_e, retS_e, retK_e, retL_e, retN_e, give_val, give_sl, giveSlot_fz, giveSlot_ls, take_tv, take_ts, take_f, takeK_e, nxK_e, setS_e, setK_e, setL2_e, asgS_e, asgK_e, asgL_e, nameG_e, nilG_e, consG_e, stS_e, stK_e, stL1_e, stL2_e, stL3_e, stM_e, intOf_e, setAt_e, setAtN_e, intAt_e, intAtM_e, augS_e, augK_e, augL2_e, augKey_e, augO_e, augL3_e, augP_e, augN_e, augN1_e, augN2_e, augN3_e, nilL_e, consL_e, consL1_e, consL2_e, consL3_e, parS_e, parK_e, putL_nil, putL_cons, whlK_t, whlK_f, whlL_nx, whlL_ct, whlL_bk, whlL_rt, forK1_e, forK2_nx, forK2_ct, forK2_bk, forK2_rt, forS_e, forK_e, itF_e, itK_e, itL_e, itM_e, items_tup, items_lst, items_str, compF_e, compK2_e, yesT_e, truth_bl, eqS_int, neS_int, ltS_int, gtS_int, leS_int, geS_int, addS_int, subS_int, mulS_int, divS_int, modS_int, intS_int, idx_ls, idx_lst, idx_tup, idxM_e, idxD_e, atI0, atI1, atI2, atI3, slice_tup, slice_lst, ers_nil, ers_cons, ers_map, cat_lst, cat_tup, set_0, set_1, set_2, runK_rt, runK_nx, runL_e, lent_none, lent_some, wipe_n, wipe_c, back_n, back_c, of_some, mthF_e, mthL_e, mthK_e, mthM_e, mthN_e, napp_e, qSlot_e, fzOf_e, rgLF_e, rgLK_e, rgLM_e, putS, Option.map_some, List.set_cons_zero, List.set_cons_succ, List.map_cons, List.map_nil, List.length_cons, List.length_nil, List.length_set, List.mem_cons, List.not_mem_nil, or_false, Nat.reduceAdd, Nat.reduceLT, Nat.reduceEqDiff, List.nil_append, List.cons_append, List.replicate, Nat.reduceSub, not_false_eq_true, decide_true, Bool.and_self, Int.reduceLT, Int.reduceLE, callM_e, bag_eq, e1, hr, e2]
end K15

open PySem PySem.W PySem.Calls PyProof.Rows
theorem PySem.Challenge.cw_wellstrewn_k15_branches_ways_rims_holds : PySem.Challenge.rw_wellstrewn_k15_branches_ways_rims.Holds := by
  w_on; o_law
  refine HandSHeadRun.head_any (r := OpenLaw.row PySem.Challenge.rw_wellstrewn_k15_branches_ways_rims) (q := view (OpenLaw.row PySem.Challenge.rw_wellstrewn_k15_branches_ways_rims).prog [16]) (H := K15.hk) (ob := K15.ob) (M := 4000) (loose := ["children_of", "branch_of", "way_to", "way_has_bar", "rim_of", "_law_bag", "_law_take", "_law_some", "_law_mixed", "_law_alike", "_law_dungeon", "_law_up", "_law_branch", "_law_any_lot"]) (d := HandSHeadRun.topDef (OpenLaw.row PySem.Challenge.rw_wellstrewn_k15_branches_ways_rims).prog 16) (kwd := []) K15.ob_eq
    (by kernel_rfl) (fun s => by kernel_rfl) K15.run (by kernel_rfl) (by kernel_rfl) (by kernel_rfl) (by rfl) (by first | assumption | decide +kernel) (by decide +kernel) ⟨rfl, rfl, rfl, rfl, rfl, by decide +kernel⟩ ?hw ?hc
  case hw => w_witness2
  case hc =>
    refine Pf.walk_top (l := PySem.Challenge.rw_wellstrewn_k15_branches_ways_rims) (n := 63) (k := 4) (x := "script") rfl (by decide) (by kernel_rfl) ⟨rfl, by decide, by decide⟩ ?G K15.pure_law
    intro w mg fa h Y hm hmg0
    obtain ⟨K, KX, c⟩ := Y
    have hmg : mg ("law" : PySem.Str) = some (.ref fa) := by
      have e : (HandSHeadRun.topDef (OpenLaw.row PySem.Challenge.rw_wellstrewn_k15_branches_ways_rims).prog 16).name = ("law" : PySem.Str) := by kernel_rfl
      rw [← e]
      exact hmg0
    obtain ⟨fd, hb, hF⟩ := K15.facts (P := (PySem.Challenge.rw_wellstrewn_k15_branches_ways_rims).prog) (w := w) KX hm hmg c
    exact ⟨K, fd, KX, hb, hF⟩
