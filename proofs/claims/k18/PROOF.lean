import PyProof.Rows.All
import Wide.All
import OpenK.AllK
import Wide.FinOn
import HandS.ForMost
import HandS.Wide
import HandS.Flow
import HandS.Conv
import KE.DataEq
import KE.DataCmp
import KE.SortData
import HandS.TupAny
import HandS.Text
import PyProof.MaxThree
import HandS.Style
import HandS.Zip
import HandS.Walk
import KE.GoesNew
import HandS.Codes
import HandS.Defaults
import HandS.HeadEnd
import HandS.EndBits
import HandS.More
import HandS.IsInst
import HandS.Star
import KE.KStateDown
import HandS.WordsExc
import HandS.Head0
import HandS.Head1
import HandS.Head2
import HandS.HeadHook1
import HandS.HeadHook2
import PySem.Challenge.RW_wellstrewn_k18_net_tables_by_all_stumps
set_option Elab.async false
set_option linter.all false
set_option maxRecDepth 100000
set_option maxHeartbeats 0
/-! Pf0: pure data D, owned values OV, what they are in the hand layer's heap. -/
namespace Pf
open PySem PySem.Spec PyProof.Rows L2

inductive D where
  | non
  | bl (b : Bool)
  | int (i : Int)
  | str (s : Str)
  | tup (xs : List D)
  | lst (xs : List D)
  deriving Inhabited

mutual
def D.py : D → PyData
  | .non => .none
  | .bl b => .bool b
  | .int i => .int i
  | .str s => .str s
  | .tup xs => .tuple (D.pys xs)
  | .lst xs => .list (D.pys xs)
def D.pys : List D → List PyData
  | [] => []
  | x :: xs => D.py x :: D.pys xs
end
theorem D.pys_map : ∀ xs : List D, D.pys xs = xs.map D.py
  | [] => rfl
  | x :: xs => by rw [D.pys, D.pys_map xs]; rfl

/-- a value that one slot owns: frozen data, or a list that may be changed -/
inductive OV where
  | fz (d : D)
  | ls (xs : List OV)
  deriving Inhabited
mutual
def OV.er : OV → D
  | .fz d => d
  | .ls xs => .lst (OV.ers xs)
def OV.ers : List OV → List D
  | [] => []
  | x :: xs => OV.er x :: OV.ers xs
end
theorem OV.ers_map : ∀ xs : List OV, OV.ers xs = xs.map OV.er
  | [] => rfl
  | x :: xs => by rw [OV.ers, OV.ers_map xs]; rfl
theorem OV.ers_fz : ∀ ds : List D, OV.ers (ds.map OV.fz) = ds
  | [] => rfl
  | d :: ds => by rw [List.map_cons, OV.ers, OV.ers_fz ds]; rfl

/-- the i-th slot -/
abbrev T := List (Option OV)
def slotAt (τ : T) (i : Nat) : Option OV := (τ[i]?).join

/-- a list that is read: tracked, locked, or the module's own, its object known whole -/
def LsR (K : PySem.W.Frag) (F : Hp) (a : Addr) (vs : List V) : Prop :=
  Rd F a (.lst vs) ∨ ∃ its : List Value, K.lookup a = some { cls := .type "list", data := .seq its.toArray } ∧ its.length ≤ sizeLine ∧ Vals vs its
theorem LsR.of {K : PySem.W.Frag} {F : Hp} {a : Addr} {vs : List V} (h : F a = some (.lst vs)) : LsR K F a vs := .inl (.inl h)
theorem LsR.mono {K : PySem.W.Frag} {F F' : Hp} {a : Addr} {vs : List V} (s : Same F F') (h : LsR K F a vs) : LsR K F' a vs := by
  rcases h with (h | ⟨o, h⟩) | h
  · exact .inl (.inl (s _ _ h))
  · exact .inl (.inr ⟨o, s _ _ h⟩)
  · exact .inr h
theorem LsR.sql {K : PySem.W.Frag} {F : Hp} {a : Addr} {vs : List V} (h : LsR K F a vs) : SqL K F a vs := by
  rcases h with h | ⟨its, e, z, r⟩
  · exact .inl h
  · exact .inr ⟨_, its.toArray, _, e, rfl, rfl, rfl, by simpa using z, by simpa using r⟩
theorem LsR.exact {X : Cx} {pins : List (Addr × Obj)} {σ : L2.St} {H : Hp} {s : Shared} {a : Addr} {vs : List V} (I : Inv X pins σ H s) (h : LsR X.K H a vs) :
    vs.length ≤ sizeLine ∧ ∃ (its : List Value) (n : Nat), Vals vs its ∧ vs.length = its.length ∧ s.heap.get? a = some { cls := .type "list", data := .seq its.toArray n } := by
  rcases h with h | ⟨its, e, z, r⟩
  · obtain ⟨z, its, n, r, e⟩ := h.ok I.hok
    exact ⟨z, its, n, r, r.length, e⟩
  · exact ⟨by rw [r.length]; exact z, its, _, r, r.length, I.kIn a _ e⟩
mutual
def Rep (K : PySem.W.Frag) (F : Hp) : D → V → Prop
  | .non, v => v = .non
  | .bl b, v => v = .bl b
  | .int i, v => v = .int i
  | .str s, v => v = .str s
  | .tup xs, v => ∃ a vs, v = .ref a ∧ SqT K F a vs ∧ Reps K F xs vs
  | .lst xs, v => ∃ a vs, v = .ref a ∧ LsR K F a vs ∧ Reps K F xs vs
def Reps (K : PySem.W.Frag) (F : Hp) : List D → List V → Prop
  | [], vs => vs = []
  | x :: xs, vs => ∃ v ws, vs = v :: ws ∧ Rep K F x v ∧ Reps K F xs ws
end
mutual
def Own (K : PySem.W.Frag) (F H : Hp) : OV → V → List Addr → Prop
  | .fz d, v, as => as = [] ∧ Rep K F d v
  | .ls xs, v, as => ∃ a vs bs, v = .ref a ∧ as = a :: bs ∧ H a = some (.lst vs) ∧ a ∉ bs ∧ Owns K F H xs vs bs
def Owns (K : PySem.W.Frag) (F H : Hp) : List OV → List V → List Addr → Prop
  | [], vs, as => vs = [] ∧ as = []
  | x :: xs, vs, as => ∃ v ws bs cs, vs = v :: ws ∧ as = bs ++ cs ∧ Own K F H x v bs ∧ Owns K F H xs ws cs ∧ ∀ a ∈ bs, a ∉ cs
end

section
variable {K : PySem.W.Frag} {F F' H H' : Hp}
theorem sqt_mono {a : Addr} {vs : List V} (s : Same F F') (h : SqT K F a vs) : SqT K F' a vs := by
  rcases h with (h | ⟨o, h⟩) | h
  · exact .inl (.inl (s _ _ h))
  · exact .inl (.inr ⟨o, s _ _ h⟩)
  · exact .inr h
mutual
theorem Rep.mono (s : Same F F') : ∀ {d : D} {v : V}, Rep K F d v → Rep K F' d v
  | .non, _, h => by rw [Rep] at *; exact h
  | .bl _, _, h => by rw [Rep] at *; exact h
  | .int _, _, h => by rw [Rep] at *; exact h
  | .str _, _, h => by rw [Rep] at *; exact h
  | .tup xs, v, h => by
    rw [Rep] at *
    obtain ⟨a, vs, e, q, r⟩ := h
    exact ⟨a, vs, e, sqt_mono s q, Reps.mono s r⟩
  | .lst xs, v, h => by
    rw [Rep] at *
    obtain ⟨a, vs, e, q, r⟩ := h
    exact ⟨a, vs, e, q.mono s, Reps.mono s r⟩
theorem Reps.mono (s : Same F F') : ∀ {ds : List D} {vs : List V}, Reps K F ds vs → Reps K F' ds vs
  | [], _, h => by rw [Reps] at *; exact h
  | x :: xs, vs, h => by
    rw [Reps] at *
    obtain ⟨v, ws, e, r, rs⟩ := h
    exact ⟨v, ws, e, Rep.mono s r, Reps.mono s rs⟩
end
theorem Reps.length : ∀ {ds : List D} {vs : List V}, Reps K F ds vs → ds.length = vs.length
  | [], _, h => by rw [Reps] at h; rw [h]; rfl
  | x :: xs, vs, h => by
    rw [Reps] at h
    obtain ⟨v, ws, rfl, _, rs⟩ := h
    rw [List.length_cons, List.length_cons, Reps.length rs]
theorem Reps.get : ∀ {ds : List D} {vs : List V} {i : Nat} {d : D}, Reps K F ds vs → ds[i]? = some d → ∃ v, vs[i]? = some v ∧ Rep K F d v
  | [], _, _, _, _, e => by simp at e
  | x :: xs, vs, 0, d, h, e => by
    rw [Reps] at h
    obtain ⟨v, ws, rfl, r, _⟩ := h
    simp at e; subst e
    exact ⟨v, rfl, r⟩
  | x :: xs, vs, i + 1, d, h, e => by
    rw [Reps] at h
    obtain ⟨v, ws, rfl, _, rs⟩ := h
    obtain ⟨u, e1, r⟩ := Reps.get (i := i) rs (by simpa using e)
    exact ⟨u, by simpa using e1, r⟩
theorem Reps.nil : Reps K F [] [] := by rw [Reps]
theorem Reps.cons {d : D} {v : V} {ds : List D} {vs : List V} (r : Rep K F d v) (rs : Reps K F ds vs) : Reps K F (d :: ds) (v :: vs) := by
  rw [Reps]; exact ⟨v, vs, rfl, r, rs⟩
theorem Reps.append : ∀ {ds es : List D} {vs ws : List V}, Reps K F ds vs → Reps K F es ws → Reps K F (ds ++ es) (vs ++ ws)
  | [], _, _, _, h, k => by rw [Reps] at h; subst h; exact k
  | x :: xs, es, vs, ws, h, k => by
    rw [Reps] at h
    obtain ⟨v, us, rfl, r, rs⟩ := h
    exact Reps.cons r (Reps.append rs k)
theorem Reps.take : ∀ {ds : List D} {vs : List V} (n : Nat), Reps K F ds vs → Reps K F (ds.take n) (vs.take n)
  | _, _, 0, _ => by simp only [List.take_zero]; exact Reps.nil
  | [], _, _ + 1, h => by rw [Reps] at h; subst h; exact Reps.nil
  | x :: xs, vs, n + 1, h => by
    rw [Reps] at h
    obtain ⟨v, us, rfl, r, rs⟩ := h
    exact Reps.cons r (Reps.take n rs)
theorem Reps.drop : ∀ {ds : List D} {vs : List V} (n : Nat), Reps K F ds vs → Reps K F (ds.drop n) (vs.drop n)
  | _, _, 0, h => h
  | [], _, _ + 1, h => by rw [Reps] at h; subst h; exact Reps.nil
  | x :: xs, vs, n + 1, h => by
    rw [Reps] at h
    obtain ⟨v, us, rfl, r, rs⟩ := h
    exact Reps.drop n rs
theorem Reps.reverse : ∀ {ds : List D} {vs : List V}, Reps K F ds vs → Reps K F ds.reverse vs.reverse
  | [], _, h => by rw [Reps] at h; subst h; exact Reps.nil
  | x :: xs, vs, h => by
    rw [Reps] at h
    obtain ⟨v, us, rfl, r, rs⟩ := h
    rw [List.reverse_cons, List.reverse_cons]
    exact Reps.append (Reps.reverse rs) (Reps.cons r Reps.nil)
theorem Reps.set : ∀ {ds : List D} {vs : List V} {d : D} {v : V} (i : Nat), Reps K F ds vs → Rep K F d v → Reps K F (ds.set i d) (vs.set i v)
  | [], _, _, _, i, h, _ => by rw [Reps] at h; subst h; exact Reps.nil
  | x :: xs, vs, d, v, 0, h, q => by
    rw [Reps] at h
    obtain ⟨w, us, rfl, r, rs⟩ := h
    exact Reps.cons q rs
  | x :: xs, vs, d, v, i + 1, h, q => by
    rw [Reps] at h
    obtain ⟨w, us, rfl, r, rs⟩ := h
    exact Reps.cons r (Reps.set i rs q)

/-! owned values stand: the frozen part grows, the owned addresses keep their objects -/
mutual
theorem Own.keep (s : Same F F') : ∀ {o : OV} {v : V} {as : List Addr}, (∀ a ∈ as, ∀ u, H a = some u → H' a = some u) → Own K F H o v as → Own K F' H' o v as
  | .fz d, v, as, _, h => by
    rw [Own] at *
    exact ⟨h.1, h.2.mono s⟩
  | .ls xs, v, as, k, h => by
    rw [Own] at *
    obtain ⟨a, vs, bs, e, e2, q, n, r⟩ := h
    subst e2
    exact ⟨a, vs, bs, e, rfl, k a List.mem_cons_self _ q, n, Owns.keep s (fun b hb => k b (List.mem_cons_of_mem _ hb)) r⟩
theorem Owns.keep (s : Same F F') : ∀ {os : List OV} {vs : List V} {as : List Addr}, (∀ a ∈ as, ∀ u, H a = some u → H' a = some u) → Owns K F H os vs as → Owns K F' H' os vs as
  | [], _, _, _, h => by rw [Owns] at *; exact h
  | x :: xs, vs, as, k, h => by
    rw [Owns] at *
    obtain ⟨v, ws, bs, cs, e, e2, r, rs, n⟩ := h
    subst e2
    exact ⟨v, ws, bs, cs, e, rfl, Own.keep s (fun b hb => k b (List.mem_append_left _ hb)) r, Owns.keep s (fun b hb => k b (List.mem_append_right _ hb)) rs, n⟩
end
mutual
theorem Own.there : ∀ {o : OV} {v : V} {as : List Addr}, Own K F H o v as → ∀ a ∈ as, ∃ vs, H a = some (.lst vs)
  | .fz d, v, as, h, a, ha => by
    rw [Own] at h
    rw [h.1] at ha
    exact absurd ha (by simp)
  | .ls xs, v, as, h, a, ha => by
    rw [Own] at h
    obtain ⟨b, vs, bs, e, e2, q, n, r⟩ := h
    subst e2
    rcases List.mem_cons.mp ha with z | z
    · subst z; exact ⟨vs, q⟩
    · exact Owns.there r a z
theorem Owns.there : ∀ {os : List OV} {vs : List V} {as : List Addr}, Owns K F H os vs as → ∀ a ∈ as, ∃ vs, H a = some (.lst vs)
  | [], _, _, h, a, ha => by
    rw [Owns] at h
    rw [h.2] at ha
    exact absurd ha (by simp)
  | x :: xs, vs, as, h, a, ha => by
    rw [Owns] at h
    obtain ⟨v, ws, bs, cs, e, e2, r, rs, n⟩ := h
    subst e2
    rcases List.mem_append.mp ha with z | z
    · exact Own.there r a z
    · exact Owns.there rs a z
end
/-- frozen: the owned addresses join the frozen part -/
def frz (F H : Hp) (as : List Addr) : Hp := fun b => if b ∈ as then H b else F b
theorem frz_same {as : List Addr} (s : Same F H) (h : ∀ a ∈ as, F a = none) : Same F (frz F H as) := fun b o e => by
  unfold frz
  rw [if_neg fun z => by rw [h b z] at e; cases e]
  exact e
theorem frz_sub {as : List Addr} (s : Same F H) : Same (frz F H as) H := fun b o e => by
  unfold frz at e
  split at e
  · exact e
  · exact s b o e
mutual
theorem Own.frozen (s : Same F H) {ss : List Addr} (h0 : ∀ a ∈ ss, F a = none) : ∀ {o : OV} {v : V} {as : List Addr}, (∀ a ∈ as, a ∈ ss) → Own K F H o v as → Rep K (frz F H ss) o.er v
  | .fz d, v, as, _, h => by
    rw [Own] at h
    exact h.2.mono (frz_same s h0)
  | .ls xs, v, as, k, h => by
    rw [Own] at h
    obtain ⟨a, vs, bs, e, e2, q, n, r⟩ := h
    subst e2
    rw [OV.er, Rep]
    refine ⟨a, vs, e, .inl (.inl ?_), Owns.frozen s h0 (fun b hb => k b (List.mem_cons_of_mem _ hb)) r⟩
    unfold frz
    rw [if_pos (k a List.mem_cons_self)]
    exact q
theorem Owns.frozen (s : Same F H) {ss : List Addr} (h0 : ∀ a ∈ ss, F a = none) : ∀ {os : List OV} {vs : List V} {as : List Addr}, (∀ a ∈ as, a ∈ ss) → Owns K F H os vs as → Reps K (frz F H ss) (OV.ers os) vs
  | [], _, _, _, h => by
    rw [Owns] at h
    rw [OV.ers, h.1]
    exact Reps.nil
  | x :: xs, vs, as, k, h => by
    rw [Owns] at h
    obtain ⟨v, ws, bs, cs, e, e2, r, rs, n⟩ := h
    subst e e2
    rw [OV.ers]
    exact Reps.cons (Own.frozen s h0 (fun b hb => k b (List.mem_append_left _ hb)) r) (Owns.frozen s h0 (fun b hb => k b (List.mem_append_right _ hb)) rs)
end
/-- a list of frozen items -/
theorem Owns.of_reps : ∀ {ds : List D} {vs : List V}, Reps K F ds vs → Owns K F H (ds.map OV.fz) vs []
  | [], _, h => by rw [Reps] at h; subst h; rw [List.map_nil, Owns]; exact ⟨rfl, rfl⟩
  | x :: xs, vs, h => by
    rw [Reps] at h
    obtain ⟨v, us, rfl, r, rs⟩ := h
    rw [List.map_cons, Owns]
    refine ⟨v, us, [], [], rfl, rfl, ?_, Owns.of_reps rs, fun _ z => nomatch z⟩
    rw [Own]; exact ⟨rfl, r⟩
theorem Owns.to_reps : ∀ {ds : List D} {vs : List V} {as : List Addr}, Owns K F H (ds.map OV.fz) vs as → Reps K F ds vs ∧ as = []
  | [], _, _, h => by rw [List.map_nil, Owns] at h; rw [h.1]; exact ⟨Reps.nil, h.2⟩
  | x :: xs, vs, as, h => by
    rw [List.map_cons, Owns] at h
    obtain ⟨v, ws, bs, cs, e, e2, r, rs, n⟩ := h
    subst e e2
    rw [Own] at r
    obtain ⟨q1, q2⟩ := Owns.to_reps rs
    rw [r.1, q2]
    exact ⟨Reps.cons r.2 q1, rfl⟩
theorem Own.fz_iff {d : D} {v : V} {as : List Addr} : Own K F H (.fz d) v as ↔ as = [] ∧ Rep K F d v := by rw [Own]
theorem Own.of_rep {d : D} {v : V} (r : Rep K F d v) : Own K F H (.fz d) v [] := by rw [Own]; exact ⟨rfl, r⟩
end

/-! ### what a def runs over -/
/-- fixed through a def's body: the frozen part and the heap at its entry, what it was lent (an address: the slot it belongs to), the slots that hold it; pend: new values that wait while others are worked out -/
structure Fx where
  F0 : Hp
  H0 : Hp
  io : Addr → Option Nat
  ios : List (Nat × V)
  pend : List (OV × V × List Addr)

structure Rel (K : PySem.W.Frag) (C : Fx) (F : Hp) (fp : Nat → List Addr) (τ : T) (σ : L2.St) (H : Hp) : Prop where
  sub : Same F H
  old : Same C.F0 F
  frame : ∀ a o, C.H0 a = some o → C.io a = none → H a = some o
  new : ∀ a o, F a = some o → C.F0 a ≠ none ∨ C.H0 a = none
  len : τ.length = σ.length
  slot : ∀ i o, slotAt τ i = some o → ∃ v, σ[i]? = some (some v) ∧ Own K F H o v (fp i)
  apart : ∀ i j a, a ∈ fp i → a ∈ fp j → i = j
  own : ∀ i a, a ∈ fp i → F a = none ∧ (C.H0 a = none ∨ C.io a = some i)
  lay : ∀ i a, a ∈ fp i → H a ≠ none
  stay : ∀ a, H a = none → C.H0 a = none
  lent : ∀ p ∈ C.ios, σ[p.1]? = some (some p.2)
  ioc : ∀ a i, C.io a = some i → i ∈ C.ios.map (·.1)
  pend : ∀ t ∈ C.pend, Own K F H t.1 t.2.1 t.2.2 ∧ ∀ a ∈ t.2.2, F a = none ∧ H a ≠ none ∧ ∀ i, a ∉ fp i

/-- a new value that no slot holds -/
structure Tmp (K : PySem.W.Frag) (C : Fx) (F : Hp) (fp : Nat → List Addr) (H : Hp) (r : OV) (v : V) (as : List Addr) : Prop where
  own : Own K F H r v as
  apart : ∀ a ∈ as, ∀ i, a ∉ fp i
  new : ∀ a ∈ as, F a = none ∧ C.H0 a = none
  free : ∀ a ∈ as, ∀ t ∈ C.pend, a ∉ t.2.2
/-- what an expression hands back: a new value, or a slot's own -/
inductive Pre where
  | val (r : OV)
  | sl (i : Nat)
def PreR (K : PySem.W.Frag) (C : Fx) (F : Hp) (fp : Nat → List Addr) (σ : L2.St) (H : Hp) : Pre → V → Prop
  | .val r, v => ∃ as, Tmp K C F fp H r v as
  | .sl i, v => σ[i]? = some (some v)

section
variable {K : PySem.W.Frag} {C : Fx} {F : Hp} {fp : Nat → List Addr} {τ : T} {σ : L2.St} {H : Hp}
theorem frz_out {F H : Hp} {as : List Addr} {a : Addr} (h : a ∉ as) : frz F H as a = F a := by
  unfold frz
  rw [if_neg h]
/-- a new value is frozen -/
theorem Rel.freeze {r : OV} {v : V} {as : List Addr} (R : Rel K C F fp τ σ H) (t : Tmp K C F fp H r v as) : ∃ F', Rel K C F' fp τ σ H ∧ Same F F' ∧ Rep K F' r.er v := by
  have h0 : ∀ a ∈ as, F a = none := fun a ha => (t.new a ha).1
  have s1 := frz_same R.sub h0
  refine ⟨frz F H as, ⟨frz_sub R.sub, fun b o e => s1 b o (R.old b o e), R.frame, fun a o e => ?_, R.len, fun i o e => ?_, R.apart, fun i a ha => ⟨?_, (R.own i a ha).2⟩, R.lay, R.stay, R.lent, R.ioc, fun p hp => ?_⟩, s1, Own.frozen R.sub h0 (fun _ h => h) t.own⟩
  · unfold frz at e
    split at e
    · exact .inr (t.new a ‹_›).2
    · exact R.new a o e
  · obtain ⟨w, e1, q⟩ := R.slot i o e
    exact ⟨w, e1, q.keep s1 fun _ _ _ h => h⟩
  · rw [frz_out fun z => t.apart a z i ha]
    exact (R.own i a ha).1
  · obtain ⟨w, q⟩ := R.pend p hp
    exact ⟨w.keep s1 fun _ _ _ h => h, fun a ha => ⟨by rw [frz_out fun z => t.free a z p hp ha]; exact (q a ha).1, (q a ha).2⟩⟩
theorem slotAt_set_same {τ : T} {i : Nat} {o : Option OV} (h : i < τ.length) : slotAt (τ.set i o) i = o := by
  unfold slotAt
  rw [List.getElem?_set_self h]
  rfl
theorem slotAt_set_ne {τ : T} {i j : Nat} {o : Option OV} (h : i ≠ j) : slotAt (τ.set i o) j = slotAt τ j := by
  unfold slotAt
  rw [List.getElem?_set_ne h]
theorem slotAt_lt {τ : T} {i : Nat} {o : OV} (h : slotAt τ i = some o) : i < τ.length := by
  unfold slotAt at h
  by_cases z : i < τ.length
  · exact z
  · rw [List.getElem?_eq_none (by omega)] at h; cases h
/-- fp, the i-th otherwise -/
def fpSet (fp : Nat → List Addr) (i : Nat) (as : List Addr) : Nat → List Addr := fun j => if j = i then as else fp j
theorem fpSet_same {fp : Nat → List Addr} {i : Nat} {as : List Addr} : fpSet fp i as i = as := if_pos rfl
theorem fpSet_ne {fp : Nat → List Addr} {i j : Nat} {as : List Addr} (h : j ≠ i) : fpSet fp i as j = fp j := if_neg h
/-- a slot's own value is frozen where it stands -/
theorem Rel.freezeSlot {i : Nat} {o : OV} (R : Rel K C F fp τ σ H) (e : slotAt τ i = some o) (hi : i ∉ C.ios.map (·.1)) :
    ∃ F' fp' v, Rel K C F' fp' (τ.set i (some (.fz o.er))) σ H ∧ Same F F' ∧ σ[i]? = some (some v) ∧ Rep K F' o.er v := by
  obtain ⟨v, ev, w⟩ := R.slot i o e
  have h0 : ∀ a ∈ fp i, F a = none := fun a ha => (R.own i a ha).1
  have s1 := frz_same R.sub h0
  have rp := Own.frozen R.sub h0 (fun _ h => h) w
  have il := slotAt_lt e
  have out : ∀ {j : Nat} {a : Addr}, a ∈ fpSet fp i [] j → j ≠ i ∧ a ∈ fp j := fun {j a} h => by
    by_cases hj : j = i
    · subst hj; rw [fpSet_same] at h; exact absurd h (by simp)
    · rw [fpSet_ne hj] at h; exact ⟨hj, h⟩
  refine ⟨frz F H (fp i), fpSet fp i [], v, ⟨frz_sub R.sub, fun b o e => s1 b o (R.old b o e), R.frame, fun a u eu => ?_, by rw [List.length_set]; exact R.len, fun j u eu => ?_, fun j k a h1 h2 => R.apart j k a (out h1).2 (out h2).2, fun j a ha => ?_, fun j a ha => R.lay j a (out ha).2, R.stay, R.lent, R.ioc, fun p hp => ?_⟩, s1, ev, rp⟩
  · unfold frz at eu
    split at eu
    · rename_i ha
      rcases (R.own i a ha).2 with z | z
      · exact .inr z
      · exact absurd (R.ioc a i z) hi
    · exact R.new a u eu
  · by_cases hj : j = i
    · subst hj
      rw [slotAt_set_same il] at eu
      cases eu
      exact ⟨v, ev, by rw [fpSet_same]; exact Own.of_rep rp⟩
    · rw [slotAt_set_ne (Ne.symm hj)] at eu
      obtain ⟨x, e1, q⟩ := R.slot j u eu
      rw [fpSet_ne hj]
      exact ⟨x, e1, q.keep s1 fun _ _ _ h => h⟩
  · obtain ⟨hj, ha⟩ := out ha
    refine ⟨?_, (R.own j a ha).2⟩
    rw [frz_out fun z => hj (R.apart j i a ha z)]
    exact (R.own j a ha).1
  · obtain ⟨w, q⟩ := R.pend p hp
    exact ⟨w.keep s1 fun _ _ _ h => h, fun a ha => ⟨by rw [frz_out fun z => (q a ha).2.2 i z]; exact (q a ha).1, (q a ha).2.1, fun j z => (q a ha).2.2 j (out z).2⟩⟩
end

/-- a step that lays new things only -/
structure Grow (K : PySem.W.Frag) (F H : Hp) (r : OV) (v : V) (F' H' : Hp) : Prop where
  heap : Same H H'
  frozen : Same F F'
  sub : Same F' H'
  new : ∀ a o, F' a = some o → F a = some o ∨ H a = none
  own : ∃ as, Own K F' H' r v as ∧ ∀ a ∈ as, H a = none ∧ F' a = none
section
variable {K : PySem.W.Frag} {C : Fx} {F F' : Hp} {fp : Nat → List Addr} {τ : T} {σ : L2.St} {H H' : Hp} {r : OV} {v : V}
/-- the slots' relation over a grown heap -/
theorem Rel.grow (R : Rel K C F fp τ σ H) (heap : Same H H') (frozen : Same F F') (sub : Same F' H') (new : ∀ a o, F' a = some o → F a = some o ∨ H a = none) : Rel K C F' fp τ σ H' := by
  have out : ∀ a, F a = none → H a ≠ none → F' a = none := fun a h1 h2 => by
    cases e : F' a with
    | none => rfl
    | some o =>
      rcases new a o e with z | z
      · rw [h1] at z; cases z
      · exact absurd z h2
  refine ⟨sub, fun a o e => frozen a o (R.old a o e), fun a o e n => heap a o (R.frame a o e n), fun a o e => ?_, R.len, fun i o e => ?_, R.apart, fun i a h => ⟨out a (R.own i a h).1 (R.lay i a h), (R.own i a h).2⟩, fun i a h z => R.lay i a h (heap.free z), fun a z => R.stay a (heap.free z), R.lent, R.ioc, fun p hp => ?_⟩
  · rcases new a o e with z | z
    · exact R.new a o z
    · exact .inr (R.stay a z)
  · obtain ⟨x, e1, q⟩ := R.slot i o e
    exact ⟨x, e1, q.keep frozen fun b _ u hu => heap b u hu⟩
  · obtain ⟨w, q⟩ := R.pend p hp
    exact ⟨w.keep frozen fun b _ u hu => heap b u hu, fun a ha => ⟨out a (q a ha).1 (q a ha).2.1, fun z => (q a ha).2.1 (heap.free z), (q a ha).2.2⟩⟩
theorem Grow.rel (g : Grow K F H r v F' H') (R : Rel K C F fp τ σ H) : Rel K C F' fp τ σ H' ∧ ∃ as, Tmp K C F' fp H' r v as := by
  obtain ⟨as, w, ha⟩ := g.own
  exact ⟨R.grow g.heap g.frozen g.sub g.new, as, ⟨w, fun a h i z => R.lay i a z (ha a h).1, fun a h => ⟨(ha a h).2, R.stay a (ha a h).1⟩, fun a h p hp z => ((R.pend p hp).2 a z).2.1 (ha a h).1⟩⟩
/-- nothing is laid -/
theorem Grow.same {d : D} (s : Same F H) (q : Rep K F d v) : Grow K F H (.fz d) v F H :=
  ⟨Same.refl _, Same.refl _, s, fun _ _ e => .inl e, [], Own.of_rep q, fun _ z => nomatch z⟩
theorem same_new {H : Hp} {p : Addr} {o : HO} (h : H p = none) : Same H (upd H p o) := fun b x e => by
  rw [upd_ne (ne_of_none e h)]
  exact e
theorem same_upd2 {F H : Hp} {p : Addr} {o : HO} (s : Same F H) : Same (upd F p o) (upd H p o) := fun b x e => by
  by_cases hb : b = p
  · subst hb; rw [upd_same] at *; exact e
  · rw [upd_ne hb] at *; exact s b x e
theorem same_updF {F H : Hp} {p : Addr} {o : HO} (s : Same F H) (h : F p = none) : Same F (upd H p o) := fun b x e => by
  rw [upd_ne (ne_of_none e h)]
  exact s b x e
/-- a new tuple -/
theorem Grow.tup {p : Addr} {ds : List D} {vs : List V} (s : Same F H) (n : H p = none) (q : Reps K F ds vs) : Grow K F H (.fz (.tup ds)) (.ref p) (upd F p (.tup vs)) (upd H p (.tup vs)) := by
  have nF : F p = none := s.free n
  refine ⟨same_new n, same_new nF, same_upd2 s, fun a o e => ?_, [], Own.of_rep ?_, fun _ z => nomatch z⟩
  · by_cases ha : a = p
    · subst ha; exact .inr n
    · rw [upd_ne ha] at e; exact .inl e
  · rw [Rep]
    exact ⟨p, vs, rfl, .inl (.inl upd_same), q.mono (same_new nF)⟩
/-- a new list -/
theorem Grow.lst {p : Addr} {ds : List D} {vs : List V} (s : Same F H) (n : H p = none) (q : Reps K F ds vs) : Grow K F H (.ls (ds.map OV.fz)) (.ref p) F (upd H p (.lst vs)) := by
  have nF : F p = none := s.free n
  refine ⟨same_new n, Same.refl _, same_updF s nF, fun a o e => .inl e, [p], ?_, fun a h => ?_⟩
  · rw [Own]
    exact ⟨p, vs, [], rfl, rfl, upd_same, by simp, Owns.of_reps q⟩
  · have : a = p := by simpa using h
    subst this
    exact ⟨n, nF⟩
end
/-- a value that is looked at where it stands -/
def View (K : PySem.W.Frag) (F H : Hp) (o : OV) (v : V) : Prop := ∃ as, Own K F H o v as

/-! ### reading data -/
section
variable {X : Cx} {pins : List (Addr × Obj)} {σ : L2.St} {F H : Hp} {s : Shared}
mutual
theorem Rep.reads (I : Inv X pins σ H s) (sm : Same F H) : ∀ {d : D} {v : V} {u : Value}, Rep X.K F d v → RelV v u → ∃ as, Reads s.heap u d.py as
  | .non, v, u, h, r => by
    rw [Rep] at h; subst h
    cases r
    exact ⟨_, .none⟩
  | .bl b, v, u, h, r => by
    rw [Rep] at h; subst h
    cases r
    exact ⟨_, .bool b⟩
  | .int i, v, u, h, r => by
    rw [Rep] at h; subst h
    obtain ⟨t, rfl⟩ := r
    exact ⟨_, .int i t⟩
  | .str x, v, u, h, r => by
    rw [Rep] at h; subst h
    obtain ⟨t, rfl⟩ := r
    exact ⟨_, .str x t⟩
  | .tup xs, v, u, h, r => by
    rw [Rep] at h
    obtain ⟨a, vs, rfl, q, rs⟩ := h
    cases r
    obtain ⟨its, rv, ⟨o, e1, e2, n, e3⟩, _⟩ := I.tuple (sqt_mono sm q)
    obtain ⟨as, w⟩ := Reps.reads I sm rs rv
    exact ⟨_, .tuple e1 e2 e3 (by simpa using w)⟩
  | .lst xs, v, u, h, r => by
    rw [Rep] at h
    obtain ⟨a, vs, rfl, q, rs⟩ := h
    cases r
    obtain ⟨its, rv, ⟨o, n, e1, e2, _, e3⟩, _⟩ := I.list (Same.seq sm q.sql)
    obtain ⟨as, w⟩ := Reps.reads I sm rs rv
    exact ⟨_, .list e1 e2 e3 (by simpa using w)⟩
theorem Reps.reads (I : Inv X pins σ H s) (sm : Same F H) : ∀ {ds : List D} {vs : List V} {us : List Value}, Reps X.K F ds vs → Vals vs us → ∃ as, ReadsAll s.heap us (D.pys ds) as
  | [], vs, us, h, r => by
    rw [Reps] at h; subst h
    cases r
    exact ⟨_, .nil⟩
  | x :: xs, vs, us, h, r => by
    rw [Reps] at h
    obtain ⟨v, ws, rfl, q, qs⟩ := h
    cases r with
    | cons r rr =>
      obtain ⟨as, w⟩ := Rep.reads I sm q r
      obtain ⟨bs, ws⟩ := Reps.reads I sm qs rr
      exact ⟨_, .cons w ws⟩
end
mutual
theorem Own.reads (I : Inv X pins σ H s) (sm : Same F H) : ∀ {o : OV} {v : V} {u : Value} {ss : List Addr}, Own X.K F H o v ss → RelV v u → ∃ as, Reads s.heap u o.er.py as
  | .fz d, v, u, ss, h, r => by
    rw [Own] at h
    exact h.2.reads I sm r
  | .ls xs, v, u, ss, h, r => by
    rw [Own] at h
    obtain ⟨a, vs, bs, rfl, e2, q, n, w⟩ := h
    cases r
    obtain ⟨its, rv, ⟨o, n, e1, e2, _, e3⟩, _⟩ := I.list (SqL.of q)
    obtain ⟨as, w⟩ := Owns.reads I sm w rv
    exact ⟨_, .list e1 e2 e3 (by simpa using w)⟩
theorem Owns.reads (I : Inv X pins σ H s) (sm : Same F H) : ∀ {os : List OV} {vs : List V} {us : List Value} {ss : List Addr}, Owns X.K F H os vs ss → Vals vs us → ∃ as, ReadsAll s.heap us (D.pys (OV.ers os)) as
  | [], vs, us, ss, h, r => by
    rw [Owns] at h
    rw [h.1] at r
    cases r
    exact ⟨_, .nil⟩
  | x :: xs, vs, us, ss, h, r => by
    rw [Owns] at h
    obtain ⟨v, ws, bs, cs, rfl, e2, q, qs, n⟩ := h
    cases r with
    | cons r rr =>
      obtain ⟨as, w⟩ := Own.reads I sm q r
      obtain ⟨bs, ws⟩ := Owns.reads I sm qs rr
      exact ⟨_, .cons w ws⟩
end
end
end Pf

/-! Pf1: what is said of an expression, of a test, of a block; slots, constants, operators. -/
namespace Pf
open PySem PySem.Spec PyProof.Rows L2

inductive Res (α : Type) where
  | ok (a : α)
  | bad
def Res.bind {α β : Type} : Res α → (α → Res β) → Res β
  | .ok a, f => f a
  | .bad, _ => .bad
@[simp] theorem Res.ok_bind {α β : Type} (a : α) (f : α → Res β) : (Res.ok a).bind f = f a := rfl
@[simp] theorem Res.bad_bind {α β : Type} (f : α → Res β) : (Res.bad : Res α).bind f = .bad := rfl
theorem Res.bind_ok {α β : Type} {x : Res α} {f : α → Res β} {b : β} (h : x.bind f = .ok b) : ∃ a, x = .ok a ∧ f a = .ok b := by
  cases x with
  | ok a => exact ⟨a, rfl, h⟩
  | bad => cases h
def Res.of {α : Type} : Option α → Res α
  | some a => .ok a
  | none => .bad
@[simp] theorem Res.of_some {α : Type} (a : α) : Res.of (some a) = .ok a := rfl
@[simp] theorem Res.of_none {α : Type} : Res.of (none : Option α) = .bad := rfl
theorem Res.of_ok {α : Type} {x : Option α} {a : α} (h : Res.of x = .ok a) : x = some a := by
  cases x with
  | some b => cases h; rfl
  | none => cases h

abbrev FP := T → Res (Pre × T)
/-- an expression's reading by a function f of the slots -/
def rdP (K : PySem.W.Frag) (io : List Nat) (f : FP) : TE := fun σ H Q => ∃ C F fp τ p τ', C.ios.map (·.1) = io ∧ Rel K C F fp τ σ H ∧ f τ = .ok (p, τ') ∧
  ∀ F' fp' H' v, Rel K C F' fp' τ' σ H' → Same F F' → PreR K C F' fp' σ H' p v → Q v H'
def XP (X : Cx) (io : List Nat) (e : Expr) (f : FP) : Prop := PE X e (rdP X.K io f)
/-- a test's -/
def rdT (K : PySem.W.Frag) (io : List Nat) (f : T → Res (Bool × T)) : TT := fun σ H Q => ∃ C F fp τ b τ', C.ios.map (·.1) = io ∧ Rel K C F fp τ σ H ∧ f τ = .ok (b, τ') ∧
  ∀ F' fp' H', Rel K C F' fp' τ' σ H' → Same F F' → Q b H'
def XT (X : Cx) (io : List Nat) (e : Expr) (f : T → Res (Bool × T)) : Prop := PT X e (rdT X.K io f)
def XW (X : Cx) (io : List Nat) (e : Expr) (f : T → Res (Bool × T)) : Prop := PW X e (rdT X.K io f)

/-- an operand that is kept while others are worked out: data, or a slot -/
def OpdR (K : PySem.W.Frag) (F : Hp) (σ : L2.St) : Pre → V → Prop
  | .val r, v => ∃ d, r = .fz d ∧ Rep K F d v
  | .sl i, v => σ[i]? = some (some v)
theorem OpdR.mono {K : PySem.W.Frag} {F F' : Hp} {σ : L2.St} {p : Pre} {v : V} (s : Same F F') (h : OpdR K F σ p v) : OpdR K F' σ p v := by
  cases p with
  | val r => obtain ⟨d, e, q⟩ := h; exact ⟨d, e, q.mono s⟩
  | sl i => exact h
/-- as an operand; a new list is frozen -/
def opd : Pre → Pre
  | .val r => .val (.fz r.er)
  | .sl i => .sl i
/-- what an operand is at last -/
def vw (τ : T) : Pre → Option OV
  | .val r => some r
  | .sl i => slotAt τ i
/-- as data: what a slot owns is frozen -/
def frzSlot (io : List Nat) (i : Nat) (τ : T) : Option OV → Res (D × T)
  | some (.fz d) => .ok (d, τ)
  | some (.ls xs) => if i ∈ io then .bad else .ok ((OV.ls xs).er, τ.set i (some (.fz (OV.ls xs).er)))
  | none => .bad
def settle (io : List Nat) (p : Pre) (τ : T) : Res (D × T) := match p with
  | .val r => .ok (r.er, τ)
  | .sl i => frzSlot io i τ (slotAt τ i)

section
variable {K : PySem.W.Frag} {C : Fx} {F : Hp} {fp : Nat → List Addr} {τ : T} {σ : L2.St} {H : Hp}
theorem Rel.opd {p : Pre} {v : V} (R : Rel K C F fp τ σ H) (h : PreR K C F fp σ H p v) : ∃ F', Rel K C F' fp τ σ H ∧ Same F F' ∧ OpdR K F' σ (Pf.opd p) v := by
  cases p with
  | val r =>
    obtain ⟨as, t⟩ := h
    obtain ⟨F', R', s, q⟩ := R.freeze t
    exact ⟨F', R', s, _, rfl, q⟩
  | sl i => exact ⟨F, R, Same.refl _, h⟩
theorem Rel.vw {p : Pre} {v : V} {o : OV} (R : Rel K C F fp τ σ H) (h : OpdR K F σ p v) (e : Pf.vw τ p = some o) : View K F H o v := by
  cases p with
  | val r =>
    obtain ⟨d, e1, q⟩ := h
    subst e1
    cases e
    exact ⟨[], Own.of_rep q⟩
  | sl i =>
    obtain ⟨w, e1, q⟩ := R.slot i o e
    have e2 : some (some w) = some (some v) := e1.symm.trans h
    cases e2
    exact ⟨_, q⟩
theorem Rel.settle {io : List Nat} {p : Pre} {v : V} {d : D} {τ' : T} (hio : C.ios.map (·.1) = io) (R : Rel K C F fp τ σ H) (h : PreR K C F fp σ H p v) (e : Pf.settle io p τ = .ok (d, τ')) :
    ∃ F' fp', Rel K C F' fp' τ' σ H ∧ Same F F' ∧ Rep K F' d v := by
  cases p with
  | val r =>
    obtain ⟨as, t⟩ := h
    obtain ⟨F', R', s, q⟩ := R.freeze t
    cases e
    exact ⟨F', fp, R', s, q⟩
  | sl i =>
    have e : frzSlot io i τ (slotAt τ i) = .ok (d, τ') := e
    cases hs : slotAt τ i with
    | none => rw [hs] at e; cases e
    | some o =>
      rw [hs] at e
      cases o with
      | fz d' =>
        cases e
        obtain ⟨w, e1, q⟩ := R.slot i _ hs
        have e2 : some (some w) = some (some v) := e1.symm.trans h
        cases e2
        rw [Own.fz_iff] at q
        exact ⟨F, fp, R, Same.refl _, q.2⟩
      | ls xs =>
        have e : (if i ∈ io then Res.bad else Res.ok ((OV.ls xs).er, τ.set i (some (.fz (OV.ls xs).er)))) = Res.ok (d, τ') := e
        by_cases hi : i ∈ io
        · rw [if_pos hi] at e; cases e
        · rw [if_neg hi] at e
          cases e
          obtain ⟨F', fp', w, R', s, e1, q⟩ := R.freezeSlot hs (by rw [hio]; exact hi)
          have e2 : some (some w) = some (some v) := e1.symm.trans h
          cases e2
          exact ⟨F', fp', R', s, q⟩
end

/-! ### slots, constants -/
section
variable {X : Cx} {io : List Nat} {pos : Pos} {a b : Expr} {f g : FP}
theorem pe_weak {e : Expr} {t t' : TE} (h : PE X e t) (w : ∀ σ H Q, t' σ H Q → t σ H Q) : PE X e t' := ⟨fun pins s σ H Q I q => h.run pins s σ H Q I (w σ H Q q)⟩
theorem pt_weak {e : Expr} {t t' : TT} (h : PT X e t) (w : ∀ σ H Q, t' σ H Q → t σ H Q) : PT X e t' := ⟨fun pins s σ H Q I q => h.run pins s σ H Q I (w σ H Q q)⟩
theorem pw_weak {e : Expr} {t t' : TT} (h : PW X e t) (w : ∀ σ H Q, t' σ H Q → t σ H Q) : PW X e t' := ⟨fun wh pins s σ H Q I q => h.run wh pins s σ H Q I (w σ H Q q)⟩
theorem pa_weak {es : List Expr} {t t' : TA} (h : PA X es t) (w : ∀ σ H Q, t' σ H Q → t σ H Q) : PA X es t' := ⟨fun p pins s σ H Q I q => h.run p pins s σ H Q I (w σ H Q q)⟩
def eSlot (i : Nat) : FP := fun τ => match slotAt τ i with
  | some _ => .ok (.sl i, τ)
  | none => .bad
theorem xp_slot {i : Nat} {x : Str} (hN : X.N[i]? = some x) (hv : Vis X.env.scope x) (hd : (x == ("__debug__" : Str)) = false) (hcd : (x == ("__classdict__" : Str)) = false) : XP X io (.Name x pos) (eSlot i) := by
  refine pe_weak (pe_var hN hv hd hcd) fun σ H Q ⟨C, F, fp, τ, p, τ', hio, R, e, q⟩ => ?_
  unfold eSlot at e
  cases hs : slotAt τ i with
  | none => rw [hs] at e; cases e
  | some o =>
    rw [hs] at e
    cases e
    obtain ⟨v, e1, w⟩ := R.slot i o hs
    exact ⟨v, e1, q F fp H v R (Same.refl _) e1⟩
def eLit (d : D) : FP := fun τ => .ok (.val (.fz d), τ)
theorem lit_fin {d : D} {v : V} (hd : ∀ F, Rep X.K F d v) {σ : L2.St} {H : Hp} {Q : VK} (h : rdP X.K io (eLit d) σ H Q) : Q v H := by
  obtain ⟨C, F, fp, τ, p, τ', hio, R, e, q⟩ := h
  cases e
  refine q F fp H v R (Same.refl _) ?_
  exact ((Grow.same R.sub (hd F)).rel R).2
theorem xp_int {i : Int} {j : Nat} : XP X io (.Constant (.int i) j pos) (eLit (.int i)) := pe_weak pe_int fun σ H Q h => lit_fin (fun F => by rw [Rep]) h
theorem xp_str {x : Str} {j : Nat} : XP X io (.Constant (.str x) j pos) (eLit (.str x)) := pe_weak pe_str fun σ H Q h => lit_fin (fun F => by rw [Rep]) h
theorem xp_bl {b : Bool} {j : Nat} : XP X io (.Constant (.bool b) j pos) (eLit (.bl b)) := pe_weak pe_bl fun σ H Q h => lit_fin (fun F => by rw [Rep]) h
theorem xp_non {j : Nat} : XP X io (.Constant .none j pos) (eLit .non) := pe_weak pe_non fun σ H Q h => lit_fin (fun F => by rw [Rep]) h

/-! ### two operands -/
/-- f and g one after the other, both kept, then looked at -/
def two (f g : FP) (k : OV → OV → Res OV) : FP := fun τ => (f τ).bind fun (p, τ1) => (g τ1).bind fun (q, τ2) =>
  match vw τ2 (opd p), vw τ2 (opd q) with
  | some x, some y => (k x y).bind fun r => .ok (.val r, τ2)
  | _, _ => .bad
/-- an operation on two values that are looked at -/
def OpS (X : Cx) (f : Value → Value → Sem Value) (k : OV → OV → Res OV) : Prop :=
  ∀ (pins : List (Addr × Obj)) (s : Shared) (σ : L2.St) (F H : Hp) (x y : V) (v u : Value) (o o' r : OV) (Q : VK), Inv X pins σ H s → Same F H → RelV x v → RelV y u → View X.K F H o x → View X.K F H o' y → k o o' = .ok r →
    (∀ z F' H', Grow X.K F H r z F' H' → Q z H') → wpAny (model X.prog X.w) X.A (f v u) (EP X pins σ Q) X.xe s
/-- the reading of an operation by what is looked at -/
def rO (K : PySem.W.Frag) (k : OV → OV → Res OV) : R2 := fun x y H Q => ∃ F o o' r, Same F H ∧ View K F H o x ∧ View K F H o' y ∧ k o o' = .ok r ∧ ∀ z F' H', Grow K F H r z F' H' → Q z H'
theorem OpS.opR {f : Value → Value → Sem Value} {k : OV → OV → Res OV} (h : OpS X f k) : OpR X f (rO X.K k) := fun pins s σ H x y v u Q I rx ry ⟨F, o, o', r, s1, w1, w2, e, q⟩ => h pins s σ F H x y v u o o' r Q I s1 rx ry w1 w2 e q
theorem two_weak {k : OV → OV → Res OV} {σ : L2.St} {H : Hp} {Q : VK} (h : rdP X.K io (two f g k) σ H Q) : tOp (rO X.K k) (rdP X.K io f) (rdP X.K io g) σ H Q := by
  obtain ⟨C, F, fp, τ, p, τ', hio, R, e, q⟩ := h
  unfold two at e
  obtain ⟨⟨p1, τ1⟩, e1, e⟩ := Res.bind_ok e
  obtain ⟨⟨p2, τ2⟩, e2, e⟩ := Res.bind_ok e
  refine ⟨C, F, fp, τ, p1, τ1, hio, R, e1, fun F1 fp1 H1 x R1 s1 w1 => ?_⟩
  obtain ⟨F1', R1', s1', w1'⟩ := R1.opd w1
  refine ⟨C, F1', fp1, τ1, p2, τ2, hio, R1', e2, fun F2 fp2 H2 y R2 s2 w2 => ?_⟩
  obtain ⟨F2', R2', s2', w2'⟩ := R2.opd w2
  dsimp only at e
  cases hx : vw τ2 (opd p1) with
  | none => rw [hx] at e; cases e
  | some ox =>
    cases hy : vw τ2 (opd p2) with
    | none => rw [hx, hy] at e; cases e
    | some oy =>
      rw [hx, hy] at e
      obtain ⟨r, e3, e4⟩ := Res.bind_ok e
      cases e4
      refine ⟨F2', ox, oy, r, R2'.sub, R2'.vw (w1'.mono (s2.trans s2')) hx, R2'.vw w2' hy, e3, fun z F3 H3 g3 => ?_⟩
      obtain ⟨R3, as, t3⟩ := g3.rel R2'
      exact q F3 fp2 H3 z R3 (((s1.trans s1').trans (s2.trans s2')).trans g3.frozen) ⟨as, t3⟩
theorem xp_bin {op : Operator} {k : OV → OV → Res OV} (ho : OpS X (binaryOp op) k) (ha : XP X io a f) (hb : XP X io b g) : XP X io (.BinOp a op b pos) (two f g k) :=
  pe_weak (pe_op ho.opR ha hb) fun _ _ _ h => two_weak h
theorem xp_cmp {op : CmpOp} {k : OV → OV → Res OV} (ho : OpS X (compareOp op) k) (hm : behindInMarks op b = false) (ha : XP X io a f) (hb : XP X io b g) : XP X io (.Compare a [op] [b] pos) (two f g k) :=
  pe_weak (pe_cmpR ho.opR ha hb hm) fun _ _ _ h => two_weak h
/-- a comparison gives a truth -/
def truthOf (o : OV) : Res Bool := match o with
  | .fz .non => .ok false
  | .fz (.bl b) => .ok b
  | .fz (.int i) => .ok (i != 0)
  | .fz (.str x) => if x.length ≤ sizeLine then .ok ((x.length : Int) != 0) else .bad
  | .fz (.tup xs) => .ok (!xs.isEmpty)
  | .fz (.lst xs) => .ok (!xs.isEmpty)
  | .ls xs => .ok (!xs.isEmpty)
theorem isEmpty_len {α β : Type} {xs : List α} {ys : List β} (h : xs.length = ys.length) : xs.isEmpty = ys.isEmpty := by
  cases xs <;> cases ys <;> first | rfl | simp at h
theorem Owns.length {K : PySem.W.Frag} {F H : Hp} : ∀ {os : List OV} {vs : List V} {as : List Addr}, Owns K F H os vs as → os.length = vs.length
  | [], _, _, h => by rw [Owns] at h; rw [h.1]; rfl
  | x :: xs, vs, as, h => by
    rw [Owns] at h
    obtain ⟨v, ws, bs, cs, e, e2, r, rs, n⟩ := h
    subst e
    rw [List.length_cons, List.length_cons, Owns.length rs]
theorem View.tru {K : PySem.W.Frag} {F H : Hp} {o : OV} {v : V} {b : Bool} (s : Same F H) (w : View K F H o v) (e : truthOf o = .ok b) : TruV K v H b := by
  obtain ⟨as, w⟩ := w
  cases o with
  | ls xs =>
    rw [Own] at w
    obtain ⟨a, vs, bs, rfl, e2, q, n, r⟩ := w
    cases e
    exact .inl ⟨vs, SqL.of q, by rw [isEmpty_len r.length]⟩
  | fz d =>
    rw [Own.fz_iff] at w
    obtain ⟨_, w⟩ := w
    cases d with
    | non => rw [Rep] at w; subst w; cases e; rfl
    | bl c => rw [Rep] at w; subst w; cases e; rfl
    | int i => rw [Rep] at w; subst w; cases e; rfl
    | str x =>
      rw [Rep] at w; subst w
      unfold truthOf at e
      by_cases hx : x.length ≤ sizeLine
      · simp only [hx, if_true] at e; cases e; exact ⟨hx, rfl⟩
      · simp only [hx, if_false] at e; cases e
    | tup xs =>
      rw [Rep] at w
      obtain ⟨a, vs, rfl, q, r⟩ := w
      cases e
      exact .inr (.inl ⟨vs, sqt_mono s q, by rw [isEmpty_len r.length]⟩)
    | lst xs =>
      rw [Rep] at w
      obtain ⟨a, vs, rfl, q, r⟩ := w
      cases e
      exact .inl ⟨vs, (q.mono s).sql, by rw [isEmpty_len r.length]⟩
/-- the truth of what f gives -/
def tru (f : FP) : T → Res (Bool × T) := fun τ => (f τ).bind fun (p, τ1) => match vw τ1 (opd p) with
  | some o => (truthOf o).bind fun b => .ok (b, τ1)
  | none => .bad
theorem tru_open {σ : L2.St} {H : Hp} {Q : Bool → Hp → Prop} (h : rdT X.K io (tru f) σ H Q) : rdP X.K io f σ H fun v H1 => ∃ k, TruV X.K v H1 k ∧ Q k H1 := by
  obtain ⟨C, F, fp, τ, b, τ', hio, R, e, q⟩ := h
  unfold tru at e
  obtain ⟨⟨p, τ1⟩, e1, e⟩ := Res.bind_ok e
  refine ⟨C, F, fp, τ, p, τ1, hio, R, e1, fun F1 fp1 H1 v R1 s1 w1 => ?_⟩
  obtain ⟨F2, R2, s2, w2⟩ := R1.opd w1
  dsimp only at e
  cases hx : vw τ1 (opd p) with
  | none => rw [hx] at e; cases e
  | some o =>
    rw [hx] at e
    obtain ⟨k, e3, e4⟩ := Res.bind_ok e
    cases e4
    exact ⟨b, (R2.vw w2 hx).tru R2.sub e3, q F2 fp1 H1 R2 (s1.trans s2)⟩
theorem xt_of (ha : XP X io a f) (he : ∀ whole, isTrue a X.env whole = (do let v ← whole; standAt a.pos; holding [v] (truthy v))) : XT X io a (tru f) :=
  pt_weak (pt_truth ha he) fun _ _ _ h => tru_open h
theorem TruV.bl {K : PySem.W.Frag} {H : Hp} {v : V} {k : Bool} {F : Hp} {b : Bool} (h : Rep K F (.bl b) v) : v = .bl b := by rw [Rep] at h; exact h
theorem xt_cmp {op : CmpOp} {k : OV → OV → Res OV} (ho : OpS X (compareOp op) k) (hk : ∀ x y r, k x y = .ok r → ∃ b, r = .fz (.bl b)) (hm : behindInMarks op b = false) (ha : XP X io a f) (hb : XP X io b g) :
    XT X io (.Compare a [op] [b] pos) (tru (two f g k)) := by
  refine pt_weak (pt_cmpR ho.opR ha hb hm) fun σ H Q h => ?_
  refine two_weak ?_
  obtain ⟨C, F, fp, τ, c, τ', hio, R, e, q⟩ := h
  unfold tru at e
  obtain ⟨⟨p, τ1⟩, e1, e⟩ := Res.bind_ok e
  refine ⟨C, F, fp, τ, p, τ1, hio, R, e1, fun F1 fp1 H1 v R1 s1 w1 => ?_⟩
  have hp : ∃ b, p = .val (.fz (.bl b)) := by
    unfold two at e1
    obtain ⟨⟨p1, t1⟩, z1, z⟩ := Res.bind_ok e1
    obtain ⟨⟨p2, t2⟩, z2, z⟩ := Res.bind_ok z
    dsimp only at z
    cases hx : vw t2 (opd p1) with
    | none => rw [hx] at z; cases z
    | some ox =>
      cases hy : vw t2 (opd p2) with
      | none => rw [hx, hy] at z; cases z
      | some oy =>
        rw [hx, hy] at z
        obtain ⟨r, z3, z4⟩ := Res.bind_ok z
        cases z4
        obtain ⟨b, rfl⟩ := hk _ _ _ z3
        exact ⟨b, rfl⟩
  obtain ⟨bb, rfl⟩ := hp
  obtain ⟨as, t⟩ := w1
  have w := t.own
  rw [Own.fz_iff] at w
  have hv := TruV.bl (K := X.K) (H := H1) (k := bb) w.2
  cases e
  exact ⟨_, hv, q F1 fp1 H1 R1 s1⟩
end
end Pf

/-! Pf2: operators and comparisons on what is looked at. -/
namespace Pf
open PySem PySem.Spec PyProof.Rows L2

/-- a list's items that are all frozen -/
def allFz : List OV → Option (List D)
  | [] => some []
  | .fz d :: xs => (allFz xs).map (d :: ·)
  | .ls _ :: _ => none
theorem allFz_eq : ∀ {xs : List OV} {ds : List D}, allFz xs = some ds → xs = ds.map OV.fz
  | [], ds, h => by cases h; rfl
  | .fz d :: xs, ds, h => by
    rw [allFz] at h
    cases e : allFz xs with
    | none => rw [e] at h; cases h
    | some es =>
      rw [e] at h
      cases h
      rw [allFz_eq e]; rfl
  | .ls _ :: _, ds, h => by cases h
@[simp] theorem allFz_map : ∀ ds : List D, allFz (ds.map OV.fz) = some ds
  | [] => rfl
  | d :: ds => by rw [List.map_cons, allFz, allFz_map ds]; rfl
def listOf : OV → Option (List D)
  | .fz (.lst ds) => some ds
  | .ls xs => allFz xs
  | _ => none
/-- a list's or a tuple's items -/
def seqOf : OV → Option (List D)
  | .fz (.tup ds) => some ds
  | o => listOf o
section
variable {K : PySem.W.Frag} {F H : Hp} {v : V} {o : OV} {ds : List D}
theorem View.list (s : Same F H) (w : View K F H o v) (e : listOf o = some ds) : ∃ a vs, v = .ref a ∧ LsR K H a vs ∧ Reps K F ds vs := by
  obtain ⟨as, w⟩ := w
  cases o with
  | ls xs =>
    have e := allFz_eq e
    subst e
    rw [Own] at w
    obtain ⟨a, vs, bs, rfl, e2, q, n, r⟩ := w
    exact ⟨a, vs, rfl, LsR.of q, (Owns.to_reps r).1⟩
  | fz d =>
    rw [Own.fz_iff] at w
    obtain ⟨_, w⟩ := w
    cases d with
    | lst xs =>
      cases e
      rw [Rep] at w
      obtain ⟨a, vs, rfl, q, r⟩ := w
      exact ⟨a, vs, rfl, q.mono s, r⟩
    | _ => cases e
theorem View.fz {d : D} (w : View K F H (.fz d) v) : Rep K F d v := by
  obtain ⟨as, w⟩ := w
  rw [Own.fz_iff] at w
  exact w.2
theorem View.tup (s : Same F H) (w : View K F H (.fz (.tup ds)) v) : ∃ a vs, v = .ref a ∧ SqT K H a vs ∧ Reps K F ds vs := by
  have w := w.fz
  rw [Rep] at w
  obtain ⟨a, vs, rfl, q, r⟩ := w
  exact ⟨a, vs, rfl, sqt_mono s q, r⟩
theorem View.seq (s : Same F H) (w : View K F H o v) (e : seqOf o = some ds) : ∃ a vs, v = .ref a ∧ (SqL K H a vs ∨ SqT K H a vs) ∧ Reps K F ds vs := by
  have tail : ∀ o, View K F H o v → listOf o = some ds → ∃ a vs, v = .ref a ∧ (SqL K H a vs ∨ SqT K H a vs) ∧ Reps K F ds vs := fun o w e => by
    obtain ⟨a, vs, e1, q, r⟩ := w.list s e
    exact ⟨a, vs, e1, .inl q.sql, r⟩
  cases o with
  | ls xs => exact tail _ w e
  | fz d =>
    cases d with
    | tup xs =>
      cases e
      obtain ⟨a, vs, e1, q, r⟩ := w.tup s
      exact ⟨a, vs, e1, .inr q, r⟩
    | _ => exact tail _ w e
theorem View.int {i : Int} (w : View K F H (.fz (.int i)) v) : v = .int i := by have w := w.fz; rw [Rep] at w; exact w
theorem View.str {x : Str} (w : View K F H (.fz (.str x)) v) : v = .str x := by have w := w.fz; rw [Rep] at w; exact w
theorem View.bl {b : Bool} (w : View K F H (.fz (.bl b)) v) : v = .bl b := by have w := w.fz; rw [Rep] at w; exact w
theorem View.non (w : View K F H (.fz .non) v) : v = .non := by have w := w.fz; rw [Rep] at w; exact w
end

/-! ### arithmetic -/
def gd {α : Type} (c : Bool) (a : α) : Res α := if c = true then .ok a else .bad
@[simp] theorem gd_true {α : Type} (a : α) : gd true a = .ok a := rfl
theorem gd_ok {α : Type} {c : Bool} {a b : α} (h : gd c a = .ok b) : c = true ∧ a = b := by
  cases c with
  | true => cases h; exact ⟨rfl, rfl⟩
  | false => cases h
def catS (o o' : OV) : Res OV := match listOf o, listOf o' with
  | some ds, some es => gd (decide (ds.length + es.length ≤ sizeLine)) (.ls ((ds ++ es).map OV.fz))
  | _, _ => .bad
def addS : OV → OV → Res OV
  | .fz (.int i), .fz (.int j) => .ok (.fz (.int (i + j)))
  | .fz (.str x), .fz (.str y) => gd (decide (x.length + y.length ≤ sizeLine)) (.fz (.str (x ++ y)))
  | .fz (.tup xs), .fz (.tup ys) => gd (decide (xs.length + ys.length ≤ sizeLine)) (.fz (.tup (xs ++ ys)))
  | .fz (.lst xs), o' => catS (.fz (.lst xs)) o'
  | .ls xs, o' => catS (.ls xs) o'
  | _, _ => .bad
def subS : OV → OV → Res OV
  | .fz (.int i), .fz (.int j) => .ok (.fz (.int (i - j)))
  | _, _ => .bad
/-- a product: one factor below 2^64, or together below a million bits -/
def mulOk (i j : Int) : Bool := decide ((-(2 ^ 64) < i ∧ i < 2 ^ 64) ∨ (-(2 ^ 64) < j ∧ j < 2 ^ 64) ∨ i.natAbs.log2 + j.natAbs.log2 < 1000000)
def repS (o : OV) (k : Int) : Res OV := match listOf o with
  | some ds => gd (decide (-(2 ^ 63) ≤ k ∧ k < 2 ^ 63 ∧ ds.length * k.toNat ≤ sizeLine)) (.ls ((List.replicate k.toNat ds).flatten.map OV.fz))
  | none => .bad
def mulS : OV → OV → Res OV
  | .fz (.int i), .fz (.int j) => gd (mulOk i j) (.fz (.int (i * j)))
  | o, .fz (.int k) => repS o k
  | _, _ => .bad
def divS : OV → OV → Res OV
  | .fz (.int i), .fz (.int j) => gd (decide (0 < j ∧ j.natAbs.log2 < 9000)) (.fz (.int (i / j)))
  | _, _ => .bad
def modS : OV → OV → Res OV
  | .fz (.int i), .fz (.int j) => gd (decide (0 < j)) (.fz (.int (i % j)))
  | _, _ => .bad
def powS : OV → OV → Res OV
  | .fz (.int i), .fz (.int j) => gd (decide (0 ≤ j ∧ j ≤ 1000000 ∧ i.natAbs < 2 ^ 64)) (.fz (.int (i ^ j.toNat)))
  | _, _ => .bad

section
variable {X : Cx}
theorem grow_int {K : PySem.W.Frag} {F H : Hp} (s : Same F H) (i : Int) : Grow K F H (.fz (.int i)) (.int i) F H := Grow.same s (by rw [Rep])
theorem grow_bl {K : PySem.W.Frag} {F H : Hp} (s : Same F H) (b : Bool) : Grow K F H (.fz (.bl b)) (.bl b) F H := Grow.same s (by rw [Rep])
theorem grow_str {K : PySem.W.Frag} {F H : Hp} (s : Same F H) (x : Str) : Grow K F H (.fz (.str x)) (.str x) F H := Grow.same s (by rw [Rep])
theorem grow_non {K : PySem.W.Frag} {F H : Hp} (s : Same F H) : Grow K F H (.fz .non) .non F H := Grow.same s (by rw [Rep])
theorem cat_lists {o o' r : OV} {pins : List (Addr × Obj)} {s : Shared} {σ : L2.St} {F H : Hp} {x y : V} {v u : Value} {Q : VK} (I : Inv X pins σ H s) (sm : Same F H) (rx : RelV x v) (ry : RelV y u) (w1 : View X.K F H o x) (w2 : View X.K F H o' y)
    (e : catS o o' = .ok r) (q : ∀ z F' H', Grow X.K F H r z F' H' → Q z H') : wpAny (model X.prog X.w) X.A (binaryOp .Add v u) (EP X pins σ Q) X.xe s := by
  unfold catS at e
  cases e1 : listOf o with
  | none => rw [e1] at e; cases e
  | some ds =>
    cases e2 : listOf o' with
    | none => rw [e1, e2] at e; cases e
    | some es =>
      rw [e1, e2] at e
      obtain ⟨hz, rfl⟩ := gd_ok e
      have hz := of_decide_eq_true hz
      obtain ⟨a, vs, rfl, l1, r1⟩ := w1.list sm e1
      obtain ⟨b, ws, rfl, l2, r2⟩ := w2.list sm e2
      cases rx
      cases ry
      obtain ⟨z1, its, n, rv, hl, g1⟩ := l1.exact I
      obtain ⟨z2, its2, n2, rv2, hl2, g2⟩ := l2.exact I
      have hl3 := r1.length
      have hl4 := r2.length
      refine PySem.P.add_list g1 g2 ?_ (by simp only [List.size_toArray]; omega)
      have ea : its.toArray ++ its2.toArray = (its ++ its2).toArray := by simp
      rw [ea]
      exact ⟨.ref _, _, I.lnew (t' := s.toks) (rv.append rv2) (by rw [List.length_append]; omega), rfl, q _ _ _ (Grow.lst sm I.fresh (r1.append r2))⟩
theorem os_add : OpS X (binaryOp .Add) addS := by
  intro pins s σ F H x y v u o o' r Q I sm rx ry w1 w2 e q
  have lists : catS o o' = .ok r → wpAny (model X.prog X.w) X.A (binaryOp .Add v u) (EP X pins σ Q) X.xe s := fun e => cat_lists I sm rx ry w1 w2 e q
  cases o with
  | ls xs => exact lists e
  | fz d =>
    cases d with
    | int i =>
      cases o' with
      | fz d' =>
        cases d' with
        | int j =>
          cases e
          exact op_add pins s σ H x y v u Q I rx ry ⟨i, j, w1.int, w2.int, q _ _ _ (grow_int sm _)⟩
        | _ => cases e
      | _ => cases e
    | str i =>
      cases o' with
      | fz d' =>
        cases d' with
        | str j =>
          obtain ⟨hz, rfl⟩ := gd_ok e
          exact op_add_str pins s σ H x y v u Q I rx ry ⟨i, j, w1.str, w2.str, of_decide_eq_true hz, q _ _ _ (grow_str sm _)⟩
        | _ => cases e
      | _ => cases e
    | tup xs =>
      cases o' with
      | fz d' =>
        cases d' with
        | tup ys =>
          obtain ⟨hz, rfl⟩ := gd_ok e
          have hz := of_decide_eq_true hz
          obtain ⟨a, vs, e1, l1, r1⟩ := w1.tup sm
          obtain ⟨b, ws, e2, l2, r2⟩ := w2.tup sm
          refine op_catA pins s σ H x y v u Q I rx ry ⟨a, b, vs, ws, e1, e2, l1, l2, by rw [← r1.length, ← r2.length]; exact hz, fun z => ?_, fun z z2 => ?_, fun z z2 p np => ?_⟩
          · subst z
            have hx : xs = [] := List.eq_nil_of_length_eq_zero (by rw [r1.length]; rfl)
            subst hx
            refine q _ _ _ (Grow.same sm ?_)
            rw [← e2]
            exact w2.fz
          · subst z2
            have hy : ys = [] := List.eq_nil_of_length_eq_zero (by rw [r2.length]; rfl)
            subst hy
            refine q _ _ _ (Grow.same sm ?_)
            rw [List.append_nil, ← e1]
            exact w1.fz
          · exact q _ _ _ (Grow.tup sm np (r1.append r2))
        | _ => cases e
      | _ => cases e
    | lst xs => exact lists e
    | _ => cases e
theorem os_sub : OpS X (binaryOp .Sub) subS := by
  intro pins s σ F H x y v u o o' r Q I sm rx ry w1 w2 e q
  unfold subS at e
  split at e
  · cases e
    exact op_sub pins s σ H x y v u Q I rx ry ⟨_, _, w1.int, w2.int, q _ _ _ (grow_int sm _)⟩
  · cases e
theorem os_div : OpS X (binaryOp .FloorDiv) divS := by
  intro pins s σ F H x y v u o o' r Q I sm rx ry w1 w2 e q
  unfold divS at e
  split at e
  · obtain ⟨hz, rfl⟩ := gd_ok e
    have hz := of_decide_eq_true hz
    exact op_fdivW pins s σ H x y v u Q I rx ry ⟨_, _, w1.int, w2.int, hz, q _ _ _ (grow_int sm _)⟩
  · cases e
theorem os_mod : OpS X (binaryOp .Mod) modS := by
  intro pins s σ F H x y v u o o' r Q I sm rx ry w1 w2 e q
  unfold modS at e
  split at e
  · obtain ⟨hz, rfl⟩ := gd_ok e
    exact op_mod pins s σ H x y v u Q I rx ry ⟨_, _, w1.int, w2.int, of_decide_eq_true hz, q _ _ _ (grow_int sm _)⟩
  · cases e
theorem os_pow : OpS X (binaryOp .Pow) powS := by
  intro pins s σ F H x y v u o o' r Q I sm rx ry w1 w2 e q
  unfold powS at e
  split at e
  · obtain ⟨hz, rfl⟩ := gd_ok e
    have hz := of_decide_eq_true hz
    exact op_pow pins s σ H x y v u Q I rx ry ⟨_, _, w1.int, w2.int, hz, q _ _ _ (grow_int sm _)⟩
  · cases e
theorem Reps.flat {K : PySem.W.Frag} {F : Hp} {ds : List D} {vs : List V} (r : Reps K F ds vs) : ∀ n : Nat, Reps K F (List.replicate n ds).flatten (List.replicate n vs).flatten
  | 0 => Reps.nil
  | n + 1 => by
    rw [List.replicate_succ, List.flatten_cons, List.replicate_succ, List.flatten_cons]
    exact r.append (r.flat n)
theorem vals_flat {vs : List V} {us : List Value} (r : Vals vs us) : ∀ n : Nat, Vals (List.replicate n vs).flatten (List.replicate n us).flatten
  | 0 => .nil
  | n + 1 => by
    rw [List.replicate_succ, List.flatten_cons, List.replicate_succ, List.flatten_cons]
    exact r.append (vals_flat r n)
theorem fold_flat (its : List Value) (m : Nat) : List.foldl (fun a b => a ++ b) #[] (List.replicate (if its.toArray.isEmpty = true then 0 else m) its.toArray) = (List.replicate m its).flatten.toArray := by
  have g : ∀ (n : Nat) (acc : List Value), List.foldl (fun a b => a ++ b) acc.toArray (List.replicate n its.toArray) = (acc ++ (List.replicate n its).flatten).toArray := by
    intro n
    induction n with
    | zero => intro acc; simp
    | succ n ih =>
      intro acc
      rw [List.replicate_succ, List.foldl_cons, List.replicate_succ, List.flatten_cons]
      have e : acc.toArray ++ its.toArray = (acc ++ its).toArray := by simp
      rw [e, ih, List.append_assoc]
  cases its with
  | nil => simp
  | cons a r' =>
    rw [if_neg (by simp)]
    have := g m []
    rw [List.nil_append] at this
    exact this
theorem os_rep {o r : OV} {k : Int} {pins : List (Addr × Obj)} {s : Shared} {σ : L2.St} {F H : Hp} {x : V} {v : Value} {t : Tok} {Q : VK} (I : Inv X pins σ H s) (sm : Same F H) (rx : RelV x v) (w1 : View X.K F H o x)
    (e : repS o k = .ok r) (q : ∀ z F' H', Grow X.K F H r z F' H' → Q z H') : wpAny (model X.prog X.w) X.A (binaryOp .Mult v (.int k t)) (EP X pins σ Q) X.xe s := by
  unfold repS at e
  cases e1 : listOf o with
  | none => rw [e1] at e; cases e
  | some ds =>
    rw [e1] at e
    obtain ⟨hz, rfl⟩ := gd_ok e
    obtain ⟨h1, h2, hz⟩ := of_decide_eq_true hz
    obtain ⟨a, vs, rfl, l1, r1⟩ := w1.list sm e1
    cases rx
    obtain ⟨z1, its, n, rv, hl, g1⟩ := l1.exact I
    have hl3 := r1.length
    have hsz : its.toArray.size * k.toNat ≤ sizeLine := by rw [List.size_toArray, ← hl, ← hl3]; exact hz
    have c1 : ¬ its.toArray.size * k.toNat > (2 ^ 63 - 1) / 8 := by
      have z : (sizeLine : Nat) ≤ (2 ^ 63 - 1) / 8 := by decide
      omega
    have c2 : ¬ (!Builtin.List.listFitsIndex k) = true := by rw [fitsIndex_both h1 h2]; decide
    have c3 : ¬ Builtin.List.listTooLong (its.toArray.size * k.toNat) = true := by rw [notLongL hsz]; decide
    refine wpAny_binaryOp_repeat_ref (T := "list") (U := "int") (by decide) ⟨_, g1, rfl⟩ (fun s' => typeIs_int s' k t) noFill_list_mul PySem.F.fills_int_mul PySem.F.slot_int_rmul repeat_list PySem.F.slot_int_index.lookup ?_
    refine call_meets PySem.F.slot_int_rmul (typeIs_int s k t) PySem.F.entry_int_rmul (PySem.F.args_int_rmul_2 _ _) (int___rmul___int_list k t a its.toArray n) ⟨g1, rfl, ⟨_, g1, rfl⟩, ?_⟩
    refine call_meets PySem.F.slot_list_mul ⟨_, g1, rfl⟩ PySem.F.entry_list_mul (PySem.F.args_list_mul_2 _ _) (AutoListH.list___mul___list_int_3 a its.toArray n k t c2 c1 c3) ⟨g1, ?_⟩
    rw [fold_flat]
    have hlen : (List.replicate k.toNat vs).flatten.length ≤ sizeLine := by rw [PyProof.Rows.lm_len_rep_flat, Nat.mul_comm, ← hl3]; exact hz
    exact ⟨.ref _, _, I.lnew (t' := s.toks) (vals_flat rv k.toNat) hlen, rfl, q _ _ _ (Grow.lst sm I.fresh (r1.flat k.toNat))⟩
theorem os_mul : OpS X (binaryOp .Mult) mulS := by
  intro pins s σ F H x y v u o o' r Q I sm rx ry w1 w2 e q
  unfold mulS at e
  split at e
  · obtain ⟨hz, rfl⟩ := gd_ok e
    have hz := of_decide_eq_true hz
    rcases hz with hz | hz | hz
    · exact op_mul pins s σ H x y v u Q I rx ry ⟨_, _, w1.int, w2.int, .inl hz, q _ _ _ (grow_int sm _)⟩
    · exact op_mul pins s σ H x y v u Q I rx ry ⟨_, _, w1.int, w2.int, .inr hz, q _ _ _ (grow_int sm _)⟩
    · exact op_mulW pins s σ H x y v u Q I rx ry ⟨_, _, w1.int, w2.int, hz, q _ _ _ (grow_int sm _)⟩
  · have hy := w2.int
    subst hy
    obtain ⟨t, rfl⟩ := ry
    exact os_rep I sm rx w1 e q
  · cases e
end

/-! ### comparisons -/
mutual
theorem D.plain : ∀ d : D, d.py.plain = true
  | .non => by simp only [D.py, PyData.plain]
  | .bl b => by simp only [D.py, PyData.plain]
  | .int i => by simp only [D.py, PyData.plain]
  | .str x => by simp only [D.py, PyData.plain]
  | .tup xs => by simp only [D.py, PyData.plain]; exact D.plains xs
  | .lst xs => by simp only [D.py, PyData.plain]; exact D.plains xs
theorem D.plains : ∀ ds : List D, PyData.plainAll (D.pys ds) = true
  | [] => by simp only [D.pys, PyData.plainAll]
  | x :: xs => by simp only [D.pys, PyData.plainAll, D.plain x, D.plains xs, Bool.and_self]
end
def D.eqv (a b : D) : Bool := PyData.eqv a.py b.py
def D.dep (d : D) : Nat := d.py.depth
def depOk (a b : D) : Bool := decide (min a.dep b.dep ≤ 60)
def eqS (o o' : OV) : Res OV := gd (depOk o.er o'.er) (.fz (.bl (D.eqv o.er o'.er)))
def neS (o o' : OV) : Res OV := gd (depOk o.er o'.er) (.fz (.bl (!D.eqv o.er o'.er)))
def D.lt (a b : D) : Bool := PySem.W.dataLt a.py b.py
def cmpOk (a b : D) : Bool := PySem.W.alike a.py b.py && (match a with | .non => false | _ => true) && depOk a b
def ltS (o o' : OV) : Res OV := gd (cmpOk o.er o'.er) (.fz (.bl (D.lt o.er o'.er)))
def gtS (o o' : OV) : Res OV := gd (cmpOk o.er o'.er) (.fz (.bl (D.lt o'.er o.er)))
def leS (o o' : OV) : Res OV := gd (cmpOk o.er o'.er) (.fz (.bl (!D.lt o'.er o.er)))
def geS (o o' : OV) : Res OV := gd (cmpOk o.er o'.er) (.fz (.bl (!D.lt o.er o'.er)))
def isNon : OV → Bool
  | .fz .non => true
  | _ => false
def isS (o o' : OV) : Res OV := gd (isNon o') (.fz (.bl (isNon o)))
def isnotS (o o' : OV) : Res OV := gd (isNon o') (.fz (.bl (!isNon o)))
def itemsEr : D → Option (List D)
  | .tup xs => some xs
  | .lst xs => some xs
  | _ => none
def D.mem (x : D) (xs : List D) : Bool := xs.any fun y => D.eqv y x
def inStr (x y : Str) : Bool := !(Builtin.Str.occurrences y x 0 y.length 1).isEmpty
/-- one sign in a text -/
def inSign (x y : Str) : Bool := match x.cps.toList with
  | [c] => decide (c ∈ y.cps.toList)
  | _ => inStr x y
def memS (neg : Bool) (o o' : OV) : Res OV := match o.er, o'.er with
  | .str x, .str y => .ok (.fz (.bl (neg.xor (inSign x y))))
  | d, e => match itemsEr e with
    | some es => gd (decide (d.dep ≤ 60)) (.fz (.bl (neg.xor (D.mem d es))))
    | none => .bad
section
variable {X : Cx} (hu : X.A.units + 65 < cLine)
theorem View.reads {K : PySem.W.Frag} {pins : List (Addr × Obj)} {σ : L2.St} {F H : Hp} {s : Shared} {o : OV} {v : V} {u : Value} (I : Inv X pins σ H s) (sm : Same F H) (w : View X.K F H o v) (r : RelV v u) : ∃ as, Reads s.heap u o.er.py as := by
  obtain ⟨as, w⟩ := w
  exact w.reads I sm r
include hu
theorem os_eq : OpS X (compareOp .Eq) eqS := by
  intro pins s σ F H x y v u o o' r Q I sm rx ry w1 w2 e q
  obtain ⟨hz, rfl⟩ := gd_ok e
  have hz : min o.er.py.depth o'.er.py.depth ≤ 60 := of_decide_eq_true hz
  obtain ⟨as, r1⟩ := w1.reads (K := X.K) I sm rx
  obtain ⟨bs, r2⟩ := w2.reads (K := X.K) I sm ry
  exact SeqAt.eq_plain r1 r2 (D.plain _) (D.plain _) (by omega) ⟨.bl _, H, I, rfl, q _ _ _ (grow_bl sm _)⟩
theorem os_ne : OpS X (compareOp .NotEq) neS := by
  intro pins s σ F H x y v u o o' r Q I sm rx ry w1 w2 e q
  obtain ⟨hz, rfl⟩ := gd_ok e
  have hz : min o.er.py.depth o'.er.py.depth ≤ 60 := of_decide_eq_true hz
  obtain ⟨as, r1⟩ := w1.reads (K := X.K) I sm rx
  obtain ⟨bs, r2⟩ := w2.reads (K := X.K) I sm ry
  exact SeqAt.ne_plain r1 r2 (D.plain _) (D.plain _) (by omega) ⟨.bl _, H, I, rfl, q _ _ _ (grow_bl sm _)⟩
omit hu in
theorem cmpOk_of {a b : D} (h : cmpOk a b = true) : PySem.W.alike a.py b.py = true ∧ a.py ≠ .none ∧ min a.py.depth b.py.depth ≤ 60 := by
  unfold cmpOk at h
  rw [Bool.and_eq_true, Bool.and_eq_true] at h
  refine ⟨h.1.1, fun z => ?_, of_decide_eq_true h.2⟩
  cases a <;> simp [D.py] at z
  exact absurd h.1.2 (by simp)
theorem os_lt : OpS X (compareOp .Lt) ltS := by
  intro pins s σ F H x y v u o o' r Q I sm rx ry w1 w2 e q
  obtain ⟨hz, rfl⟩ := gd_ok e
  obtain ⟨h1, h2, h3⟩ := cmpOk_of hz
  obtain ⟨as, r1⟩ := w1.reads (K := X.K) I sm rx
  obtain ⟨bs, r2⟩ := w2.reads (K := X.K) I sm ry
  exact PySem.W.lt_data r1 r2 h1 h2 (by omega) ⟨.bl _, H, I, rfl, q _ _ _ (grow_bl sm _)⟩
theorem os_gt : OpS X (compareOp .Gt) gtS := by
  intro pins s σ F H x y v u o o' r Q I sm rx ry w1 w2 e q
  obtain ⟨hz, rfl⟩ := gd_ok e
  obtain ⟨h1, h2, h3⟩ := cmpOk_of hz
  obtain ⟨as, r1⟩ := w1.reads (K := X.K) I sm rx
  obtain ⟨bs, r2⟩ := w2.reads (K := X.K) I sm ry
  exact PySem.W.gt_data r1 r2 h1 h2 (by omega) ⟨.bl _, H, I, rfl, q _ _ _ (grow_bl sm _)⟩
theorem os_le : OpS X (compareOp .LtE) leS := by
  intro pins s σ F H x y v u o o' r Q I sm rx ry w1 w2 e q
  obtain ⟨hz, rfl⟩ := gd_ok e
  obtain ⟨h1, h2, h3⟩ := cmpOk_of hz
  obtain ⟨as, r1⟩ := w1.reads (K := X.K) I sm rx
  obtain ⟨bs, r2⟩ := w2.reads (K := X.K) I sm ry
  exact PySem.W.le_data r1 r2 h1 h2 (by omega) ⟨.bl _, H, I, rfl, q _ _ _ (grow_bl sm _)⟩
theorem os_ge : OpS X (compareOp .GtE) geS := by
  intro pins s σ F H x y v u o o' r Q I sm rx ry w1 w2 e q
  obtain ⟨hz, rfl⟩ := gd_ok e
  obtain ⟨h1, h2, h3⟩ := cmpOk_of hz
  obtain ⟨as, r1⟩ := w1.reads (K := X.K) I sm rx
  obtain ⟨bs, r2⟩ := w2.reads (K := X.K) I sm ry
  exact PySem.W.ge_data r1 r2 h1 h2 (by omega) ⟨.bl _, H, I, rfl, q _ _ _ (grow_bl sm _)⟩
omit hu in
theorem isNon_of {K : PySem.W.Frag} {F H : Hp} {o : OV} {v : V} (w : View K F H o v) : decide (v = .non) = isNon o := by
  obtain ⟨as, w⟩ := w
  cases o with
  | ls xs =>
    rw [Own] at w
    obtain ⟨a, vs, bs, rfl, _⟩ := w
    rfl
  | fz d =>
    rw [Own.fz_iff] at w
    have w := w.2
    cases d with
    | non => rw [Rep] at w; subst w; rfl
    | bl b => rw [Rep] at w; subst w; rfl
    | int b => rw [Rep] at w; subst w; rfl
    | str b => rw [Rep] at w; subst w; rfl
    | tup b => rw [Rep] at w; obtain ⟨a, vs, rfl, _⟩ := w; rfl
    | lst b => rw [Rep] at w; obtain ⟨a, vs, rfl, _⟩ := w; rfl
omit hu in
theorem isNon_eq {K : PySem.W.Frag} {F H : Hp} {o : OV} {v : V} (w : View K F H o v) (h : isNon o = true) : v = .non := by
  have := isNon_of w
  rw [h] at this
  exact of_decide_eq_true this
omit hu in
theorem os_is : OpS X (compareOp .Is) isS := by
  intro pins s σ F H x y v u o o' r Q I sm rx ry w1 w2 e q
  obtain ⟨hz, rfl⟩ := gd_ok e
  refine op_isN pins s σ H x y v u Q I rx ry ⟨isNon_eq w2 hz, ?_⟩
  rw [isNon_of w1]
  exact q _ _ _ (grow_bl sm _)
omit hu in
theorem os_isnot : OpS X (compareOp .IsNot) isnotS := by
  intro pins s σ F H x y v u o o' r Q I sm rx ry w1 w2 e q
  obtain ⟨hz, rfl⟩ := gd_ok e
  refine op_notN pins s σ H x y v u Q I rx ry ⟨isNon_eq w2 hz, ?_⟩
  rw [isNon_of w1]
  exact q _ _ _ (grow_bl sm _)
omit hu in
theorem any_mem (d : D) : ∀ es : List D, (D.pys es).any (fun y => PyData.eqv y d.py) = D.mem d es
  | [] => rfl
  | x :: xs => by rw [D.pys, List.any_cons, any_mem d xs]; rfl
omit hu in
theorem er_seq {e : D} {es : List D} (h : itemsEr e = some es) : e.py = .list (D.pys es) ∨ e.py = .tuple (D.pys es) := by
  cases e with
  | tup xs => cases h; right; rw [D.py]
  | lst xs => cases h; left; rw [D.py]
  | _ => cases h
omit hu in
theorem er_str {K : PySem.W.Frag} {F H : Hp} {o : OV} {v : V} {x : Str} (w : View K F H o v) (h : o.er = .str x) : v = .str x := by
  cases o with
  | ls xs => rw [OV.er] at h; cases h
  | fz d =>
    have h : d = .str x := by rw [OV.er] at h; exact h
    subst h
    exact w.str
omit hu in
theorem cps_one {x : Str} {c : Nat} (h : x.cps.toList = [c]) : x = ⟨#[c]⟩ := by
  cases x with
  | mk a =>
    have : a = #[c] := by
      apply Array.toList_inj.mp
      simpa using h
    rw [this]
omit hu in
theorem in_text {neg : Bool} {pins : List (Addr × Obj)} {s : Shared} {σ : L2.St} {H : Hp} {x y : Str} {v u : Value} {Q : VK} (I : Inv X pins σ H s) (rx : RelV (.str x) v) (ry : RelV (.str y) u) (q : Q (.bl (neg.xor (inSign x y))) H) :
    wpAny (model X.prog X.w) X.A (compareOp (if neg then .NotIn else .In) v u) (EP X pins σ Q) X.xe s := by
  unfold inSign at q
  cases hx : x.cps.toList with
  | nil =>
    rw [hx] at q
    cases neg with
    | false => exact op_in_str pins s σ H _ _ v u Q I rx ry ⟨x, y, rfl, rfl, by simpa [inStr] using q⟩
    | true => exact op_notin_str pins s σ H _ _ v u Q I rx ry ⟨x, y, rfl, rfl, by simpa [inStr] using q⟩
  | cons c cs =>
    cases cs with
    | nil =>
      rw [hx] at q
      have hc := cps_one hx
      cases neg with
      | false => exact op_in_sign pins s σ H _ _ v u Q I rx ry ⟨c, y, by rw [hc], rfl, by simpa using q⟩
      | true => exact op_notIn_sign pins s σ H _ _ v u Q I rx ry ⟨c, y, by rw [hc], rfl, by simpa using q⟩
    | cons c2 cs =>
      rw [hx] at q
      cases neg with
      | false => exact op_in_str pins s σ H _ _ v u Q I rx ry ⟨x, y, rfl, rfl, by simpa [inStr] using q⟩
      | true => exact op_notin_str pins s σ H _ _ v u Q I rx ry ⟨x, y, rfl, rfl, by simpa [inStr] using q⟩
theorem os_mem (neg : Bool) : OpS X (compareOp (if neg then .NotIn else .In)) (memS neg) := by
  intro pins s σ F H x y v u o o' r Q I sm rx ry w1 w2 e q
  have seqs : ∀ es, itemsEr o'.er = some es → gd (decide (o.er.dep ≤ 60)) (OV.fz (.bl (neg.xor (D.mem o.er es)))) = .ok r → wpAny (model X.prog X.w) X.A (compareOp (if neg then .NotIn else .In) v u) (EP X pins σ Q) X.xe s := fun es he e => by
    obtain ⟨hz, rfl⟩ := gd_ok e
    have hz : o.er.py.depth ≤ 60 := of_decide_eq_true hz
    obtain ⟨as, r1⟩ := w1.reads (K := X.K) I sm rx
    obtain ⟨bs, r2⟩ := w2.reads (K := X.K) I sm ry
    have hr : X.A.units + 1 + min (PyData.depthAll (D.pys es)) o.er.py.depth < cLine := by omega
    have q := q _ _ _ (grow_bl sm (neg.xor (D.mem o.er es)))
    rcases er_seq he with z | z
    · rw [z] at r2
      cases neg with
      | false => exact SeqAt.in_list_data r2 r1 (D.plains _) (D.plain _) hr ⟨.bl _, H, I, rfl, by rw [any_mem]; simpa using q⟩
      | true => exact SeqAt.notIn_list_data r2 r1 (D.plains _) (D.plain _) hr ⟨.bl _, H, I, rfl, by rw [any_mem]; simpa using q⟩
    · rw [z] at r2
      cases neg with
      | false => exact SeqAt.in_tuple_data r2 r1 (D.plains _) (D.plain _) hr ⟨.bl _, H, I, rfl, by rw [any_mem]; simpa using q⟩
      | true => exact SeqAt.notIn_tuple_data r2 r1 (D.plains _) (D.plain _) hr ⟨.bl _, H, I, rfl, by rw [any_mem]; simpa using q⟩
  unfold memS at e
  split at e
  · rename_i x1 y1 hx hy
    cases e
    have a1 := er_str w1 hx
    have a2 := er_str w2 hy
    subst a1 a2
    exact in_text I rx ry (q _ _ _ (grow_bl sm _))
  · cases he : itemsEr o'.er with
    | none => rw [he] at e; cases e
    | some es =>
      rw [he] at e
      exact seqs es he e
end
end Pf

/-! Pf3: and, or, not, if-else; arguments, displays; subscripts and slices; calls of what is built in. -/
namespace Pf
open PySem PySem.Spec PyProof.Rows L2

theorem OpdR.preR {K : PySem.W.Frag} {C : Fx} {F : Hp} {fp : Nat → List Addr} {σ : L2.St} {H : Hp} {p : Pre} {v : V} (h : OpdR K F σ p v) : PreR K C F fp σ H p v := by
  cases p with
  | val r =>
    obtain ⟨d, rfl, q⟩ := h
    exact ⟨[], Own.of_rep q, fun _ z => (nomatch z), fun _ z => (nomatch z), fun _ z => (nomatch z)⟩
  | sl i => exact h
@[simp] theorem opd_opd (p : Pre) : opd (opd p) = opd p := by
  cases p with
  | val r => simp [opd, OV.er]
  | sl i => rfl

section
variable {X : Cx} {io : List Nat} {pos : Pos} {a b : Expr} {rest : List Expr} {f g c : FP}
/-- a and b (or: neg) as values -/
def boF (isOr : Bool) (f g : FP) : FP := fun τ => (f τ).bind fun (p, τ1) => match vw τ1 (opd p) with
  | some o => (truthOf o).bind fun k => if k = isOr then .ok (opd p, τ1) else g τ1
  | none => .bad
theorem bo_open {isOr : Bool} {σ : L2.St} {H : Hp} {Q : VK} (h : rdP X.K io (boF isOr f g) σ H Q) : rdP X.K io f σ H fun x H1 => ∃ k, TruV X.K x H1 k ∧ if k = isOr then Q x H1 else rdP X.K io g σ H1 Q := by
  obtain ⟨C, F, fp, τ, p, τ', hio, R, e, q⟩ := h
  unfold boF at e
  obtain ⟨⟨p1, τ1⟩, e1, e⟩ := Res.bind_ok e
  refine ⟨C, F, fp, τ, p1, τ1, hio, R, e1, fun F1 fp1 H1 v R1 s1 w1 => ?_⟩
  obtain ⟨F2, R2, s2, w2⟩ := R1.opd w1
  dsimp only at e
  cases hx : vw τ1 (opd p1) with
  | none => rw [hx] at e; cases e
  | some o =>
    rw [hx] at e
    obtain ⟨k, e3, e4⟩ := Res.bind_ok e
    refine ⟨k, (R2.vw w2 hx).tru R2.sub e3, ?_⟩
    by_cases hk : k = isOr
    · rw [if_pos hk] at e4 ⊢
      cases e4
      exact q F2 fp1 H1 v R2 (s1.trans s2) w2.preR
    · rw [if_neg hk] at e4 ⊢
      exact ⟨C, F2, fp1, τ1, p, τ', hio, R2, e4, fun F3 fp3 H3 u R3 s3 w3 => q F3 fp3 H3 u R3 ((s1.trans s2).trans s3) w3⟩
theorem xp_and (ha : XP X io a f) (hb : XP X io (.BoolOp .And (b :: rest) pos) g) : XP X io (.BoolOp .And (a :: b :: rest) pos) (boF false f g) := by
  refine pe_weak (pe_andT ha hb) fun σ H Q h => ?_
  obtain ⟨C, F, fp, τ, p, τ', hio, R, e, q⟩ := bo_open h
  refine ⟨C, F, fp, τ, p, τ', hio, R, e, fun F1 fp1 H1 v R1 s1 w1 => ?_⟩
  obtain ⟨k, t, z⟩ := q F1 fp1 H1 v R1 s1 w1
  refine ⟨k, t, ?_⟩
  cases k with
  | true => simpa using z
  | false => simpa using z
theorem xp_or (ha : XP X io a f) (hb : XP X io (.BoolOp .Or (b :: rest) pos) g) : XP X io (.BoolOp .Or (a :: b :: rest) pos) (boF true f g) := by
  refine pe_weak (pe_orT ha hb) fun σ H Q h => ?_
  obtain ⟨C, F, fp, τ, p, τ', hio, R, e, q⟩ := bo_open h
  refine ⟨C, F, fp, τ, p, τ', hio, R, e, fun F1 fp1 H1 v R1 s1 w1 => ?_⟩
  obtain ⟨k, t, z⟩ := q F1 fp1 H1 v R1 s1 w1
  refine ⟨k, t, ?_⟩
  cases k with
  | true => simpa using z
  | false => simpa using z
theorem xp_bo1 {op : BoolOp} (ha : XP X io a f) : XP X io (.BoolOp op [a] pos) f := pe_one ha
theorem tru_bo {isOr : Bool} {σ : L2.St} {H : Hp} {Q : Bool → Hp → Prop} (h : rdT X.K io (tru (boF isOr f g)) σ H Q) : rdT X.K io (tru f) σ H fun k H1 => if k = isOr then Q k H1 else rdT X.K io (tru g) σ H1 Q := by
  obtain ⟨C, F, fp, τ, t, τ', hio, R, e, q⟩ := h
  unfold tru boF at e
  obtain ⟨⟨p2, τ2⟩, e, e2⟩ := Res.bind_ok e
  obtain ⟨⟨p1, τ1⟩, e1, e⟩ := Res.bind_ok e
  dsimp only at e e2
  cases hx : vw τ1 (opd p1) with
  | none => rw [hx] at e; cases e
  | some o =>
    rw [hx] at e
    obtain ⟨k, e3, e4⟩ := Res.bind_ok e
    have ef : tru f τ = .ok (k, τ1) := by
      unfold tru
      rw [e1]
      simp only [Res.ok_bind, hx, e3]
    refine ⟨C, F, fp, τ, k, τ1, hio, R, ef, fun F1 fp1 H1 R1 s1 => ?_⟩
    by_cases hk : k = isOr
    · rw [if_pos hk] at e4 ⊢
      cases e4
      rw [opd_opd, hx] at e2
      dsimp only at e2
      rw [e3] at e2
      cases e2
      exact q F1 fp1 H1 R1 s1
    · rw [if_neg hk] at e4 ⊢
      refine ⟨C, F1, fp1, τ1, t, τ', hio, R1, ?_, fun F3 fp3 H3 R3 s3 => q F3 fp3 H3 R3 (s1.trans s3)⟩
      unfold tru
      rw [e4]
      exact e2
theorem xw_and1 (ha : XT X io a (tru f)) : XW X io (.BoolOp .And [a] pos) (tru f) := pw_and1 ha
theorem xw_or1 (ha : XT X io a (tru f)) : XW X io (.BoolOp .Or [a] pos) (tru f) := pw_or1 ha
theorem xw_and (ha : XT X io a (tru f)) (hb : XW X io (.BoolOp .And (b :: rest) pos) (tru g)) : XW X io (.BoolOp .And (a :: b :: rest) pos) (tru (boF false f g)) := by
  refine pw_weak (pw_and ha hb) fun σ H Q h => ?_
  obtain ⟨C, F, fp, τ, t, τ', hio, R, e, q⟩ := tru_bo h
  refine ⟨C, F, fp, τ, t, τ', hio, R, e, fun F1 fp1 H1 R1 s1 => ?_⟩
  have z := q F1 fp1 H1 R1 s1
  cases t with
  | true => simpa using z
  | false => simpa using z
theorem xw_or (ha : XT X io a (tru f)) (hb : XW X io (.BoolOp .Or (b :: rest) pos) (tru g)) : XW X io (.BoolOp .Or (a :: b :: rest) pos) (tru (boF true f g)) := by
  refine pw_weak (pw_or ha hb) fun σ H Q h => ?_
  obtain ⟨C, F, fp, τ, t, τ', hio, R, e, q⟩ := tru_bo h
  refine ⟨C, F, fp, τ, t, τ', hio, R, e, fun F1 fp1 H1 R1 s1 => ?_⟩
  have z := q F1 fp1 H1 R1 s1
  cases t with
  | true => simpa using z
  | false => simpa using z
def notF (f : FP) : FP := fun τ => (tru f τ).bind fun (k, τ1) => .ok (.val (.fz (.bl (!k))), τ1)
theorem not_open {σ : L2.St} {H : Hp} {Q : VK} (h : rdP X.K io (notF f) σ H Q) : rdT X.K io (tru f) σ H fun k H1 => Q (.bl (!k)) H1 := by
  obtain ⟨C, F, fp, τ, p, τ', hio, R, e, q⟩ := h
  obtain ⟨⟨k, τ1⟩, e1, e⟩ := Res.bind_ok e
  cases e
  refine ⟨C, F, fp, τ, k, _, hio, R, e1, fun F1 fp1 H1 R1 s1 => ?_⟩
  exact q F1 fp1 H1 _ R1 s1 ((grow_bl R1.sub (!k)).rel R1).2
theorem xp_not (ha : XP X io a f) : XP X io (.UnaryOp .Not a pos) (notF f) := by
  refine pe_weak (pe_notT ha) fun σ H Q h => ?_
  have z := tru_open (not_open h)
  obtain ⟨C, F, fp, τ, p, τ', hio, R, e, q⟩ := z
  exact ⟨C, F, fp, τ, p, τ', hio, R, e, q⟩
theorem xt_not (ha : XT X io a (tru f)) : XT X io (.UnaryOp .Not a pos) (tru (notF f)) := by
  refine pt_weak (pt_not ha) fun σ H Q h => ?_
  obtain ⟨C, F, fp, τ, t, τ', hio, R, e, q⟩ := h
  unfold tru at e
  obtain ⟨⟨p, τ2⟩, e, e2⟩ := Res.bind_ok e
  obtain ⟨⟨k, τ1⟩, e1, e⟩ := Res.bind_ok e
  cases e
  cases e2
  exact ⟨C, F, fp, τ, k, _, hio, R, e1, fun F1 fp1 H1 R1 s1 => q F1 fp1 H1 R1 s1⟩
def iteF (c f g : FP) : FP := fun τ => (tru c τ).bind fun (k, τ1) => if k = true then f τ1 else g τ1
theorem xp_ite {e : Expr} (hc : XT X io e (tru c)) (ha : XP X io a f) (hb : XP X io b g) : XP X io (.IfExp e a b pos) (iteF c f g) := by
  refine pe_weak (pe_ifExp hc ha hb) fun σ H Q h => ?_
  obtain ⟨C, F, fp, τ, p, τ', hio, R, e, q⟩ := h
  obtain ⟨⟨k, τ1⟩, e1, e⟩ := Res.bind_ok e
  refine ⟨C, F, fp, τ, k, τ1, hio, R, e1, fun F1 fp1 H1 R1 s1 => ?_⟩
  cases k with
  | true => exact ⟨C, F1, fp1, τ1, p, τ', hio, R1, e, fun F3 fp3 H3 u R3 s3 w3 => q F3 fp3 H3 u R3 (s1.trans s3) w3⟩
  | false => exact ⟨C, F1, fp1, τ1, p, τ', hio, R1, e, fun F3 fp3 H3 u R3 s3 w3 => q F3 fp3 H3 u R3 (s1.trans s3) w3⟩
/-- -a -/
def negF (f : FP) : FP := fun τ => (f τ).bind fun (p, τ1) => match vw τ1 (opd p) with
  | some (.fz (.int i)) => .ok (.val (.fz (.int (-i))), τ1)
  | _ => .bad
theorem xp_neg (ha : XP X io a f) : XP X io (.UnaryOp .USub a pos) (negF f) := by
  refine pe_weak (pe_un un_neg ha) fun σ H Q h => ?_
  obtain ⟨C, F, fp, τ, p, τ', hio, R, e, q⟩ := h
  obtain ⟨⟨p1, τ1⟩, e1, e⟩ := Res.bind_ok e
  refine ⟨C, F, fp, τ, p1, τ1, hio, R, e1, fun F1 fp1 H1 v R1 s1 w1 => ?_⟩
  obtain ⟨F2, R2, s2, w2⟩ := R1.opd w1
  dsimp only at e
  split at e
  · rename_i i hx
    cases e
    have hv := (R2.vw w2 hx).int
    exact ⟨i, hv, q F2 fp1 H1 _ R2 (s1.trans s2) ((grow_int R2.sub (-i)).rel R2).2⟩
  · cases e

/-! ### arguments -/
abbrev FA := T → Res (List Pre × T)
def OpdRs (K : PySem.W.Frag) (F : Hp) (σ : L2.St) : List Pre → List V → Prop
  | [], vs => vs = []
  | p :: ps, vs => ∃ v ws, vs = v :: ws ∧ OpdR K F σ p v ∧ OpdRs K F σ ps ws
def rdA (K : PySem.W.Frag) (io : List Nat) (h : FA) : TA := fun σ H Q => ∃ C F fp τ ps τ', C.ios.map (·.1) = io ∧ Rel K C F fp τ σ H ∧ h τ = .ok (ps, τ') ∧
  ∀ F' fp' H' vs, Rel K C F' fp' τ' σ H' → Same F F' → OpdRs K F' σ ps vs → Q vs H'
def XA (X : Cx) (io : List Nat) (es : List Expr) (h : FA) : Prop := PA X es (rdA X.K io h)
/-- kept as it is looked at (pk), or as data -/
def kept (io : List Nat) (pk : Bool) (p : Pre) (τ : T) : Res (Pre × T) := if pk = true then .ok (opd p, τ) else (settle io p τ).bind fun (d, τ') => .ok (.val (.fz d), τ')
theorem Rel.kept {C : Fx} {F : Hp} {fp : Nat → List Addr} {τ τ' : T} {σ : L2.St} {H : Hp} {p p' : Pre} {v : V} {pk : Bool} {K : PySem.W.Frag} (hio : C.ios.map (·.1) = io) (R : Rel K C F fp τ σ H) (h : PreR K C F fp σ H p v) (e : Pf.kept io pk p τ = .ok (p', τ')) :
    ∃ F' fp', Rel K C F' fp' τ' σ H ∧ Same F F' ∧ OpdR K F' σ p' v := by
  unfold Pf.kept at e
  cases pk with
  | true =>
    cases e
    obtain ⟨F', R', s, w⟩ := R.opd h
    exact ⟨F', fp, R', s, w⟩
  | false =>
    obtain ⟨⟨d, τ1⟩, e1, e⟩ := Res.bind_ok e
    cases e
    obtain ⟨F', fp', R', s, w⟩ := R.settle hio h e1
    exact ⟨F', fp', R', s, d, rfl, w⟩
def nilA : FA := fun τ => .ok ([], τ)
def consA (io : List Nat) (pk : Bool) (f : FP) (h : FA) : FA := fun τ => (f τ).bind fun (p, τ1) => (kept io pk p τ1).bind fun (p', τ2) => (h τ2).bind fun (ps, τ3) => .ok (p' :: ps, τ3)
theorem xa_nil : XA X io [] nilA := pa_weak pa_nil fun σ H Q ⟨C, F, fp, τ, ps, τ', hio, R, e, q⟩ => by
  cases e
  exact q F fp H [] R (Same.refl _) rfl
def notStar : Expr → Bool
  | .Starred _ _ => false
  | _ => true
theorem star_cons {e : Expr} {es : List Expr} {env : Env} (h : notStar e = true) : starEach (e :: es) env = (false, eval e env) :: starEach es env := by
  cases e <;> first | rfl | (exact absurd h (by simp [notStar]))
theorem xa_cons {e : Expr} {es : List Expr} {pk : Bool} {h : FA} (hn : notStar e = true) (ha : XP X io e f) (hr : XA X io es h) : XA X io (e :: es) (consA io pk f h) := by
  refine pa_weak (pa_cons ha hr (star_cons hn)) fun σ H Q hh => ?_
  obtain ⟨C, F, fp, τ, ps, τ', hio, R, e, q⟩ := hh
  obtain ⟨⟨p1, τ1⟩, e1, e⟩ := Res.bind_ok e
  obtain ⟨⟨p2, τ2⟩, e2, e⟩ := Res.bind_ok e
  obtain ⟨⟨qs, τ3⟩, e3, e⟩ := Res.bind_ok e
  cases e
  refine ⟨C, F, fp, τ, p1, τ1, hio, R, e1, fun F1 fp1 H1 v R1 s1 w1 => ?_⟩
  obtain ⟨F2, fp2, R2, s2, w2⟩ := R1.kept hio w1 e2
  refine ⟨C, F2, fp2, τ2, qs, _, hio, R2, e3, fun F3 fp3 H3 vs R3 s3 w3 => ?_⟩
  exact q F3 fp3 H3 (v :: vs) R3 ((s1.trans s2).trans s3) ⟨v, vs, rfl, w2.mono s3, w3⟩
theorem star_any {env : Env} {pos : Pos} : ∀ {es : List Expr}, es.all notStar = true → (backTo pos (starEach es env)).any (·.1) = false
  | [], _ => rfl
  | e :: es, h => by
    rw [List.all_cons, Bool.and_eq_true] at h
    rw [star_cons h.1]
    show (backTo pos (starEach es env)).any (·.1) = false
    exact star_any h.2
theorem star_all {env : Env} {pos : Pos} : ∀ {es : List Expr}, es.all notStar = true → (backTo pos (starEach es env)).all (fun x => !x.1) = true
  | [], _ => rfl
  | e :: es, h => by
    rw [List.all_cons, Bool.and_eq_true] at h
    rw [star_cons h.1]
    show (backTo pos (starEach es env)).all (fun x => !x.1) = true
    exact star_all h.2
/-- all data -/
def datas : List Pre → Option (List D)
  | [] => some []
  | .val (.fz d) :: ps => (datas ps).map (d :: ·)
  | _ :: _ => none
theorem OpdRs.datas {K : PySem.W.Frag} {F : Hp} {σ : L2.St} : ∀ {ps : List Pre} {vs : List V} {ds : List D}, OpdRs K F σ ps vs → Pf.datas ps = some ds → Reps K F ds vs
  | [], vs, ds, h, e => by
    cases e
    rw [OpdRs] at h
    subst h
    exact Reps.nil
  | .val (.fz d) :: ps, vs, ds, h, e => by
    rw [Pf.datas] at e
    rw [OpdRs] at h
    obtain ⟨v, ws, rfl, ⟨d', e', r⟩, rs⟩ := h
    cases e'
    cases z : Pf.datas ps with
    | none => rw [z] at e; cases e
    | some es =>
      rw [z] at e
      cases e
      exact Reps.cons r (OpdRs.datas rs z)
  | .val (.ls _) :: ps, vs, ds, h, e => by cases e
  | .sl _ :: ps, vs, ds, h, e => by cases e
def tupF (h : FA) : FP := fun τ => (h τ).bind fun (ps, τ1) => match datas ps with
  | some ds => gd (decide (ds.length ≤ sizeLine)) (.val (.fz (.tup ds)), τ1)
  | none => .bad
def lstF (h : FA) : FP := fun τ => (h τ).bind fun (ps, τ1) => match datas ps with
  | some ds => gd (decide (ds.length ≤ sizeLine)) (.val (.ls (ds.map OV.fz)), τ1)
  | none => .bad
theorem xp_tup {es : List Expr} {k : Nat} {h : FA} (ha : XA X io es h) : XP X io (.Tuple es k pos) (tupF h) := by
  refine pe_weak (pe_tup ha) fun σ H Q hh => ?_
  obtain ⟨C, F, fp, τ, p, τ', hio, R, e, q⟩ := hh
  obtain ⟨⟨ps, τ1⟩, e1, e⟩ := Res.bind_ok e
  dsimp only at e
  cases hd : datas ps with
  | none => rw [hd] at e; cases e
  | some ds =>
    rw [hd] at e
    obtain ⟨hz, e⟩ := gd_ok e
    cases e
    refine ⟨C, F, fp, τ, ps, _, hio, R, e1, fun F1 fp1 H1 vs R1 s1 w1 => ?_⟩
    have r := w1.datas hd
    refine ⟨by rw [← r.length]; exact of_decide_eq_true hz, fun a na => ?_⟩
    have g := Grow.tup R1.sub na r
    obtain ⟨R2, as, t⟩ := g.rel R1
    exact q _ fp1 _ _ R2 (s1.trans g.frozen) ⟨as, t⟩
theorem xp_lst {es : List Expr} {h : FA} (ha : XA X io es h) : XP X io (.List es pos) (lstF h) := by
  refine pe_weak (pe_lst ha) fun σ H Q hh => ?_
  obtain ⟨C, F, fp, τ, p, τ', hio, R, e, q⟩ := hh
  obtain ⟨⟨ps, τ1⟩, e1, e⟩ := Res.bind_ok e
  dsimp only at e
  cases hd : datas ps with
  | none => rw [hd] at e; cases e
  | some ds =>
    rw [hd] at e
    obtain ⟨hz, e⟩ := gd_ok e
    cases e
    refine ⟨C, F, fp, τ, ps, _, hio, R, e1, fun F1 fp1 H1 vs R1 s1 w1 => ?_⟩
    have r := w1.datas hd
    refine ⟨by rw [← r.length]; exact of_decide_eq_true hz, fun a na => ?_⟩
    have g := Grow.lst R1.sub na r
    obtain ⟨R2, as, t⟩ := g.rel R1
    exact q _ fp1 _ _ R2 (s1.trans g.frozen) ⟨as, t⟩

/-! ### subscripts -/
def atD {α : Type} (xs : List α) (i : Int) : Option α := atI xs i
def idxS (o o' : OV) : Res OV := match o, o' with
  | .ls xs, .fz (.int i) => match atI xs i with
    | some (.fz d) => .ok (.fz d)
    | _ => .bad
  | .fz (.lst ds), .fz (.int i) => match atI ds i with
    | some d => .ok (.fz d)
    | none => .bad
  | .fz (.tup ds), .fz (.int i) => match atI ds i with
    | some d => .ok (.fz d)
    | none => .bad
  | .fz (.str z), .fz (.int i) => if z.length ≤ sizeLine then match atI z.cps.toList i with
    | some c => .ok (.fz (.str ⟨#[c]⟩))
    | none => .bad else .bad
  | _, _ => .bad
theorem Owns.get {K : PySem.W.Frag} {F H : Hp} : ∀ {os : List OV} {vs : List V} {as : List Addr} {i : Nat} {o : OV}, Owns K F H os vs as → os[i]? = some o → ∃ v bs, vs[i]? = some v ∧ Own K F H o v bs
  | [], _, _, _, _, _, e => by simp at e
  | x :: xs, vs, as, 0, o, h, e => by
    rw [Owns] at h
    obtain ⟨v, ws, bs, cs, rfl, e2, r, rs, n⟩ := h
    simp at e; subst e
    exact ⟨v, bs, rfl, r⟩
  | x :: xs, vs, as, i + 1, o, h, e => by
    rw [Owns] at h
    obtain ⟨v, ws, bs, cs, rfl, e2, r, rs, n⟩ := h
    obtain ⟨u, ds, e3, r3⟩ := Owns.get (i := i) rs (by simpa using e)
    exact ⟨u, ds, by simpa using e3, r3⟩
theorem atI_len {α β : Type} {xs : List α} {ys : List β} {i : Int} {x : α} (hl : xs.length = ys.length) (h : atI xs i = some x) : ∃ j : Nat, xs[j]? = some x ∧ atI ys i = ys[j]? := by
  unfold atI at h ⊢
  rw [← hl]
  cases e : ixN xs.length i with
  | none => rw [e] at h; cases h
  | some j =>
    rw [e] at h
    exact ⟨j, h, rfl⟩
theorem Reps.at {K : PySem.W.Frag} {F : Hp} {ds : List D} {vs : List V} {i : Int} {d : D} (r : Reps K F ds vs) (h : atI ds i = some d) : ∃ v, atI vs i = some v ∧ Rep K F d v := by
  obtain ⟨j, e, e2⟩ := atI_len r.length h
  obtain ⟨v, e3, r3⟩ := r.get e
  exact ⟨v, by rw [e2, e3], r3⟩
/-- o[i] by what is looked at -/
theorem ix_view : IxR X (rO X.K idxS) := by
  intro value slice pins s σ H x y v u Q I rx ry h hs
  obtain ⟨F, o, o', r, sm, w1, w2, e, q⟩ := h
  refine ix_seq value slice pins s σ H x y v u Q I rx ry ?_ hs
  unfold idxS at e
  split at e
  · rename_i xs i
    split at e
    · rename_i d hd
      cases e
      obtain ⟨as, w1⟩ := w1
      rw [Own] at w1
      obtain ⟨a, vs, bs, rfl, e2, g, n, rr⟩ := w1
      obtain ⟨j, ej, ej2⟩ := atI_len rr.length hd
      obtain ⟨z, bs', ez, rz⟩ := rr.get ej
      rw [Own.fz_iff] at rz
      exact .inl ⟨a, vs, i, z, rfl, w2.int, SqL.of g, by rw [ej2, ez], q _ _ _ (Grow.same sm rz.2)⟩
    · cases e
  · rename_i ds i
    split at e
    · rename_i d hd
      cases e
      obtain ⟨a, vs, rfl, l, rr⟩ := w1.list sm rfl
      obtain ⟨z, ez, rz⟩ := rr.at hd
      exact .inl ⟨a, vs, i, z, rfl, w2.int, l.sql, ez, q _ _ _ (Grow.same sm rz)⟩
    · cases e
  · rename_i ds i
    split at e
    · rename_i d hd
      cases e
      obtain ⟨a, vs, rfl, l, rr⟩ := w1.tup sm
      obtain ⟨z, ez, rz⟩ := rr.at hd
      exact .inr (.inl ⟨a, vs, i, z, rfl, w2.int, l, ez, q _ _ _ (Grow.same sm rz)⟩)
    · cases e
  · rename_i z i
    split at e
    · rename_i hz
      split at e
      · rename_i cc hc
        cases e
        exact .inr (.inr ⟨z, i, cc, w1.str, w2.int, hz, hc, q _ _ _ (grow_str sm _)⟩)
      · cases e
    · cases e
  · cases e
def noSlice : Expr → Bool
  | .Slice _ _ _ _ => false
  | .Tuple _ _ _ => false
  | _ => true
theorem plainIx {e : Expr} (h : noSlice e = true) : PlainIx e := by
  intro o i
  cases e <;> first | rfl | (exact absurd h (by simp [noSlice]))
theorem xp_idx (hn : noSlice b = true) (ha : XP X io a f) (hb : XP X io b g) : XP X io (.Subscript a b pos) (two f g idxS) :=
  pe_weak (pe_ix ix_view ha hb (plainIx hn)) fun _ _ _ h => two_weak h
end
end Pf

/-! Pf4: slices; built-in functions. -/
namespace Pf
open PySem PySem.Spec PyProof.Rows L2

/-! ### slices -/
def cutD (ds : List D) (lo hi : Option Int) : List D := (ds.drop (HT.sIx ds.length 0 lo)).take (HT.sIx ds.length ds.length hi - HT.sIx ds.length 0 lo)
theorem Reps.cut {K : PySem.W.Frag} {F : Hp} {ds : List D} {vs : List V} (r : Reps K F ds vs) (lo hi : Option Int) : Reps K F (cutD ds lo hi) (cutV vs lo hi) := by
  unfold cutD cutV
  rw [r.length]
  exact (r.drop _).take _
def sliceS (o : OV) (lo hi : Option Int) : Res OV := match o with
  | .fz (.tup ds) => .ok (.fz (.tup (cutD ds lo hi)))
  | .fz (.str z) => gd (decide (z.length ≤ sizeLine)) (.fz (.str (cutS z lo hi)))
  | o => match listOf o with
    | some ds => .ok (.ls ((cutD ds lo hi).map OV.fz))
    | none => .bad
abbrev FO := T → Res (Option Int × T)
def noneO : FO := fun τ => .ok (none, τ)
def someO (f : FP) : FO := fun τ => (f τ).bind fun (p, τ1) => match vw τ1 (opd p) with
  | some (.fz (.int i)) => .ok (some i, τ1)
  | _ => .bad
def rdO (K : PySem.W.Frag) (io : List Nat) (h : FO) : L2.TO := fun σ H Q => ∃ C F fp τ i τ', C.ios.map (·.1) = io ∧ Rel K C F fp τ σ H ∧ h τ = .ok (i, τ') ∧
  ∀ F' fp' H', Rel K C F' fp' τ' σ H' → Same F F' → Q i H'
def XO (X : Cx) (io : List Nat) (e : Option Expr) (h : FO) : Prop := PO X e (rdO X.K io h)
theorem po_weak {X : Cx} {e : Option Expr} {t t' : L2.TO} (h : PO X e t) (w : ∀ σ H Q, t' σ H Q → t σ H Q) : PO X e t' := ⟨fun pins s σ H Q I q => h.run pins s σ H Q I (w σ H Q q)⟩
def sliF (f : FP) (l u : FO) : FP := fun τ => (f τ).bind fun (p, τ1) => (l τ1).bind fun (lo, τ2) => (u τ2).bind fun (hi, τ3) => match vw τ3 (opd p) with
  | some o => (sliceS o lo hi).bind fun r => .ok (.val r, τ3)
  | none => .bad
section
variable {X : Cx} {io : List Nat} {pos p2 : Pos} {a b : Expr} {rest : List Expr} {f g c : FP}
theorem xo_none : XO X io none noneO := po_weak po_none fun σ H Q ⟨C, F, fp, τ, i, τ', hio, R, e, q⟩ => by
  cases e
  exact q F fp H R (Same.refl _)
theorem xo_some (ha : XP X io a f) : XO X io (some a) (someO f) := po_weak (po_some ha) fun σ H Q ⟨C, F, fp, τ, i, τ', hio, R, e, q⟩ => by
  obtain ⟨⟨p1, τ1⟩, e1, e⟩ := Res.bind_ok e
  refine ⟨C, F, fp, τ, p1, τ1, hio, R, e1, fun F1 fp1 H1 v R1 s1 w1 => ?_⟩
  obtain ⟨F2, R2, s2, w2⟩ := R1.opd w1
  dsimp only at e
  split at e
  · rename_i j hx
    cases e
    exact ⟨j, (R2.vw w2 hx).int, q F2 fp1 H1 R2 (s1.trans s2)⟩
  · cases e
def rSv (K : PySem.W.Frag) : V → Option Int → Option Int → Hp → VK → Prop := fun x lo hi H Q => ∃ F o r, Same F H ∧ View K F H o x ∧ sliceS o lo hi = .ok r ∧ ∀ z F' H', Grow K F H r z F' H' → Q z H'
theorem sl_view : SlR X (rSv X.K) := by
  intro pins s σ H x v vl vu lo hi sl Q I rx hs pl pu h
  obtain ⟨F, o, r, sm, w, e, q⟩ := h
  unfold sliceS at e
  split at e
  · rename_i ds
    cases e
    obtain ⟨a, vs, rfl, l, rr⟩ := w.tup sm
    refine sl_tupA pins s σ H _ v vl vu lo hi sl Q I rx hs pl pu ⟨a, vs, rfl, l, fun z => ?_, fun z p np => q _ _ _ (Grow.tup sm np (rr.cut lo hi))⟩
    refine q _ _ _ (Grow.same sm ?_)
    have ec : cutD ds lo hi = ds := by
      unfold cutD
      rw [rr.length, z.1, z.2, List.drop_zero, Nat.sub_zero, ← rr.length, List.take_length]
    rw [ec]
    exact w.fz
  · rename_i z
    obtain ⟨hz, rfl⟩ := gd_ok e
    exact sl_str pins s σ H _ v vl vu lo hi sl Q I rx hs pl pu ⟨z, w.str, of_decide_eq_true hz, q _ _ _ (grow_str sm _)⟩
  · cases hl : listOf o with
    | none => rw [hl] at e; cases e
    | some ds =>
      rw [hl] at e
      cases e
      obtain ⟨a, vs, rfl, l, rr⟩ := w.list sm hl
      exact sl_list pins s σ H _ v vl vu lo hi sl Q I rx hs pl pu ⟨a, vs, rfl, l.sql, fun p np => q _ _ _ (Grow.lst sm np (rr.cut lo hi))⟩
theorem xp_slice {lo hi : Option Expr} {l u : FO} (ha : XP X io a f) (hl : XO X io lo l) (hu : XO X io hi u) : XP X io (.Subscript a (.Slice lo hi none p2) pos) (sliF f l u) := by
  refine pe_weak (pe_slice sl_view ha hl hu) fun σ H Q h => ?_
  obtain ⟨C, F, fp, τ, p, τ', hio, R, e, q⟩ := h
  obtain ⟨⟨p1, τ1⟩, e1, e⟩ := Res.bind_ok e
  obtain ⟨⟨i1, τ2⟩, e2, e⟩ := Res.bind_ok e
  obtain ⟨⟨i2, τ3⟩, e3, e⟩ := Res.bind_ok e
  refine ⟨C, F, fp, τ, p1, τ1, hio, R, e1, fun F1 fp1 H1 v R1 s1 w1 => ?_⟩
  obtain ⟨F1', R1', s1', w1'⟩ := R1.opd w1
  refine ⟨C, F1', fp1, τ1, i1, τ2, hio, R1', e2, fun F2 fp2 H2 R2 s2 => ?_⟩
  refine ⟨C, F2, fp2, τ2, i2, τ3, hio, R2, e3, fun F3 fp3 H3 R3 s3 => ?_⟩
  dsimp only at e
  cases hx : vw τ3 (opd p1) with
  | none => rw [hx] at e; cases e
  | some o =>
    rw [hx] at e
    obtain ⟨r, e4, e5⟩ := Res.bind_ok e
    cases e5
    refine ⟨F3, o, r, R3.sub, R3.vw (w1'.mono (s2.trans s3)) hx, e4, fun z F4 H4 g4 => ?_⟩
    obtain ⟨R4, as, t4⟩ := g4.rel R3
    exact q F4 fp3 H4 z R4 (((s1.trans s1').trans (s2.trans s3)).trans g4.frozen) ⟨as, t4⟩

/-! ### what is built in -/
def vws (τ : T) : List Pre → Option (List OV)
  | [] => some []
  | p :: ps => match vw τ p, vws τ ps with
    | some o, some os => some (o :: os)
    | _, _ => none
def Views (K : PySem.W.Frag) (F H : Hp) : List OV → List V → Prop
  | [], vs => vs = []
  | o :: os, vs => ∃ v ws, vs = v :: ws ∧ View K F H o v ∧ Views K F H os ws
theorem Rel.vws {K : PySem.W.Frag} {C : Fx} {F : Hp} {fp : Nat → List Addr} {τ : T} {σ : L2.St} {H : Hp} (R : Rel K C F fp τ σ H) : ∀ {ps : List Pre} {vs : List V} {os : List OV}, OpdRs K F σ ps vs → Pf.vws τ ps = some os → Views K F H os vs
  | [], vs, os, h, e => by
    cases e
    rw [OpdRs] at h
    exact h
  | p :: ps, vs, os, h, e => by
    rw [Pf.vws] at e
    rw [OpdRs] at h
    obtain ⟨v, ws, rfl, r, rs⟩ := h
    split at e
    · rename_i o os' h1 h2
      cases e
      exact ⟨v, ws, rfl, R.vw r h1, R.vws rs h2⟩
    · cases e
def CallS (X : Cx) (fn : Value) (k : List OV → Res OV) : Prop :=
  ∀ (pins : List (Addr × Obj)) (s : Shared) (σ : L2.St) (F H : Hp) (vs : List V) (us : List Value) (os : List OV) (r : OV) (Q : VK), Inv X pins σ H s → Same F H → Vals vs us → Views X.K F H os vs → k os = .ok r →
    (∀ z F' H', Grow X.K F H r z F' H' → Q z H') → wpAny (model X.prog X.w) X.A (call fn us) (EP X pins σ Q) X.xe s
def biF (h : FA) (k : List OV → Res OV) : FP := fun τ => (h τ).bind fun (ps, τ1) => match vws τ1 ps with
  | some os => (k os).bind fun r => .ok (.val r, τ1)
  | none => .bad
def rCv (K : PySem.W.Frag) (k : List OV → Res OV) : List V → Hp → VK → Prop := fun vs H Q => ∃ F os r, Same F H ∧ Views K F H os vs ∧ k os = .ok r ∧ ∀ z F' H', Grow K F H r z F' H' → Q z H'
theorem CallS.callR {fn : Value} {k : List OV → Res OV} (h : CallS X fn k) : CallR X fn (rCv X.K k) := fun pins s σ H xs us Q I r ⟨F, os, r', sm, w, e, q⟩ => h pins s σ F H xs us os r' Q I sm r w e q
theorem bi_open {h : FA} {k : List OV → Res OV} {σ : L2.St} {H : Hp} {Q : VK} (hh : rdP X.K io (biF h k) σ H Q) : tCB (rCv X.K k) (rdA X.K io h) σ H Q := by
  obtain ⟨C, F, fp, τ, p, τ', hio, R, e, q⟩ := hh
  obtain ⟨⟨ps, τ1⟩, e1, e⟩ := Res.bind_ok e
  refine ⟨C, F, fp, τ, ps, τ1, hio, R, e1, fun F1 fp1 H1 vs R1 s1 w1 => ?_⟩
  dsimp only at e
  cases hx : vws τ1 ps with
  | none => rw [hx] at e; cases e
  | some os =>
    rw [hx] at e
    obtain ⟨r, e4, e5⟩ := Res.bind_ok e
    cases e5
    refine ⟨F1, os, r, R1.sub, R1.vws w1 hx, e4, fun z F4 H4 g4 => ?_⟩
    obtain ⟨R4, as, t4⟩ := g4.rel R1
    exact q F4 fp1 H4 z R4 (s1.trans g4.frozen) ⟨as, t4⟩
/-- the name of something built in -/
structure Bltn (X : Cx) (x : Str) (v : Value) : Prop where
  gl : Gl X x
  mg : X.mg x = none
  bt : bootBuiltins x = some v
  nm : x ≠ "__name__"
  db : (x == ("__debug__" : Str)) = false
theorem xp_callB {x : Str} {p : Pos} {id : String} {e : Expr} {es : List Expr} {h : FA} {k : List OV → Res OV} (B : Bltn X x (.builtin id)) (hc : CallS X (.builtin id) k) (hs : (e :: es).all notStar = true) (ha : XA X io (e :: es) h) :
    XP X io (.Call (.Name x p) (e :: es) [] pos) (biF h k) := by
  have hs' := hs
  rw [List.all_cons, Bool.and_eq_true] at hs'
  exact pe_weak (pe_callB hc.callR B.gl B.mg B.bt ha B.nm B.db (star_cons hs'.1) (star_any hs'.2)) fun _ _ _ hh => bi_open hh
theorem xp_callTy {x : Str} {p : Pos} {id : String} {e : Expr} {es : List Expr} {h : FA} {k : List OV → Res OV} (B : Bltn X x (.type id)) (hc : CallS X (.type id) k) (hs : (e :: es).all notStar = true) (ha : XA X io (e :: es) h) :
    XP X io (.Call (.Name x p) (e :: es) [] pos) (biF h k) := by
  have hs' := hs
  rw [List.all_cons, Bool.and_eq_true] at hs'
  exact pe_weak (pe_callTy hc.callR B.gl B.mg B.bt ha B.nm B.db (star_cons hs'.1) (star_any hs'.2)) fun _ _ _ hh => bi_open hh

theorem Views.one {K : PySem.W.Frag} {F H : Hp} {o : OV} {vs : List V} (h : Views K F H [o] vs) : ∃ v, vs = [v] ∧ View K F H o v := by
  obtain ⟨v, ws, rfl, w, z⟩ := h
  have z : ws = [] := z
  subst z
  exact ⟨v, rfl, w⟩
theorem Views.two {K : PySem.W.Frag} {F H : Hp} {o o' : OV} {vs : List V} (h : Views K F H [o, o'] vs) : ∃ v u, vs = [v, u] ∧ View K F H o v ∧ View K F H o' u := by
  obtain ⟨v, ws, rfl, w, z⟩ := h
  obtain ⟨u, rfl, w2⟩ := Views.one z
  exact ⟨v, u, rfl, w, w2⟩
theorem Views.three {K : PySem.W.Frag} {F H : Hp} {o o' o2 : OV} {vs : List V} (h : Views K F H [o, o', o2] vs) : ∃ v u t, vs = [v, u, t] ∧ View K F H o v ∧ View K F H o' u ∧ View K F H o2 t := by
  obtain ⟨v, ws, rfl, w, z⟩ := h
  obtain ⟨u, t, rfl, w2, w3⟩ := Views.two z
  exact ⟨v, u, t, rfl, w, w2, w3⟩
def lenOf : OV → Option Nat
  | .fz (.str z) => if z.length ≤ sizeLine then some z.length else none
  | .fz (.tup ds) => some ds.length
  | .fz (.lst ds) => some ds.length
  | .ls xs => some xs.length
  | _ => none
def lenS : List OV → Res OV
  | [o] => match lenOf o with
    | some n => .ok (.fz (.int n))
    | none => .bad
  | _ => .bad
theorem cs_len : CallS X (.builtin "len") lenS := by
  intro pins s σ F H vs us os r Q I sm rv wv e q
  unfold lenS at e
  split at e
  · rename_i o
    obtain ⟨v, rfl, w⟩ := wv.one
    cases hl : lenOf o with
    | none => rw [hl] at e; cases e
    | some n =>
      rw [hl] at e
      cases e
      refine call_len pins s σ H _ us Q I rv ⟨v, n, rfl, ?_, q _ _ _ (grow_int sm _)⟩
      unfold lenOf at hl
      split at hl
      · rename_i z
        split at hl
        · cases hl
          rw [w.str]
          exact ⟨by assumption, rfl⟩
        · cases hl
      · cases hl
        obtain ⟨a, vs, rfl, l, rr⟩ := w.tup sm
        exact .inr ⟨vs, l, rr.length⟩
      · cases hl
        obtain ⟨a, vs, rfl, l, rr⟩ := w.list sm rfl
        exact .inl ⟨vs, l.sql, rr.length⟩
      · cases hl
        obtain ⟨as, w⟩ := w
        rw [Own] at w
        obtain ⟨a, vs, bs, rfl, e2, g, n, rr⟩ := w
        exact .inl ⟨vs, SqL.of g, rr.length⟩
      · cases hl
  · cases e
def intS : List OV → Res OV
  | [.fz (.int i)] => .ok (.fz (.int i))
  | [.fz (.bl b)] => .ok (.fz (.int (if b then 1 else 0)))
  | _ => .bad
theorem cs_int : CallS X (.type "int") intS := by
  intro pins s σ F H vs us os r Q I sm rv wv e q
  unfold intS at e
  split at e
  · obtain ⟨v, rfl, w⟩ := wv.one
    cases e
    exact call_int1 pins s σ H _ us Q I rv (.inl ⟨_, by rw [w.int], q _ _ _ (grow_int sm _)⟩)
  · obtain ⟨v, rfl, w⟩ := wv.one
    cases e
    exact call_int1 pins s σ H _ us Q I rv (.inr ⟨_, by rw [w.bl], q _ _ _ (grow_int sm _)⟩)
  · cases e
def absS : List OV → Res OV
  | [.fz (.int i)] => .ok (.fz (.int (if i < 0 then -i else i)))
  | _ => .bad
theorem cs_abs : CallS X (.builtin "abs") absS := by
  intro pins s σ F H vs us os r Q I sm rv wv e q
  unfold absS at e
  split at e
  · obtain ⟨v, rfl, w⟩ := wv.one
    cases e
    exact call_abs pins s σ H _ us Q I rv ⟨_, by rw [w.int], q _ _ _ (grow_int sm _)⟩
  · cases e
/-- ints only -/
def intsOf : List D → Option (List Int)
  | [] => some []
  | .int i :: ds => (intsOf ds).map (i :: ·)
  | _ :: _ => none
theorem intsOf_eq : ∀ {ds : List D} {ns : List Int}, intsOf ds = some ns → ds = ns.map D.int
  | [], ns, h => by cases h; rfl
  | .int i :: ds, ns, h => by
    rw [intsOf] at h
    cases e : intsOf ds with
    | none => rw [e] at h; cases h
    | some es => rw [e] at h; cases h; rw [intsOf_eq e]; rfl
  | .non :: _, _, h => by cases h
  | .bl _ :: _, _, h => by cases h
  | .str _ :: _, _, h => by cases h
  | .tup _ :: _, _, h => by cases h
  | .lst _ :: _, _, h => by cases h
@[simp] theorem intsOf_map : ∀ ns : List Int, intsOf (ns.map D.int) = some ns
  | [] => rfl
  | n :: ns => by rw [List.map_cons, intsOf, intsOf_map ns]; rfl
theorem Reps.ints {K : PySem.W.Frag} {F : Hp} : ∀ {ns : List Int} {vs : List V}, Reps K F (ns.map D.int) vs → vs = ns.map V.int
  | [], vs, h => by rw [List.map_nil, Reps] at h; exact h
  | n :: ns, vs, h => by
    rw [List.map_cons, Reps] at h
    obtain ⟨v, ws, rfl, r, rs⟩ := h
    rw [Rep] at r
    rw [r, Reps.ints rs]; rfl
def blsOf : List D → Option (List Bool)
  | [] => some []
  | .bl i :: ds => (blsOf ds).map (i :: ·)
  | _ :: _ => none
theorem blsOf_eq : ∀ {ds : List D} {ns : List Bool}, blsOf ds = some ns → ds = ns.map D.bl
  | [], ns, h => by cases h; rfl
  | .bl i :: ds, ns, h => by
    rw [blsOf] at h
    cases e : blsOf ds with
    | none => rw [e] at h; cases h
    | some es => rw [e] at h; cases h; rw [blsOf_eq e]; rfl
  | .non :: _, _, h => by cases h
  | .int _ :: _, _, h => by cases h
  | .str _ :: _, _, h => by cases h
  | .tup _ :: _, _, h => by cases h
  | .lst _ :: _, _, h => by cases h
@[simp] theorem blsOf_map : ∀ ns : List Bool, blsOf (ns.map D.bl) = some ns
  | [] => rfl
  | n :: ns => by rw [List.map_cons, blsOf, blsOf_map ns]; rfl
theorem Reps.bls {K : PySem.W.Frag} {F : Hp} : ∀ {ns : List Bool} {vs : List V}, Reps K F (ns.map D.bl) vs → vs = ns.map V.bl
  | [], vs, h => by rw [List.map_nil, Reps] at h; exact h
  | n :: ns, vs, h => by
    rw [List.map_cons, Reps] at h
    obtain ⟨v, ws, rfl, r, rs⟩ := h
    rw [Rep] at r
    rw [r, Reps.bls rs]; rfl
def maxInts : Int → List Int → Int
  | m, [] => m
  | m, n :: ns => maxInts (if n > m then n else m) ns
def minInts : Int → List Int → Int
  | m, [] => m
  | m, n :: ns => minInts (if n < m then n else m) ns
theorem maxInts_spec : ∀ (ns : List Int) (m : Int), maxInts m ns ∈ m :: ns ∧ ∀ y ∈ m :: ns, y ≤ maxInts m ns
  | [], m => ⟨by simp [maxInts], by simp [maxInts]⟩
  | n :: ns, m => by
    rw [maxInts]
    by_cases hc : n > m
    · rw [if_pos hc]
      obtain ⟨h1, h2⟩ := maxInts_spec ns n
      have h3 := h2 n List.mem_cons_self
      refine ⟨List.mem_cons_of_mem _ h1, fun y hy => ?_⟩
      rcases List.mem_cons.mp hy with z | z
      · subst z; omega
      · exact h2 y z
    · rw [if_neg hc]
      obtain ⟨h1, h2⟩ := maxInts_spec ns m
      have h3 := h2 m List.mem_cons_self
      refine ⟨?_, fun y hy => ?_⟩
      · rcases List.mem_cons.mp h1 with z | z
        · rw [z]; exact List.mem_cons_self
        · exact List.mem_cons_of_mem _ (List.mem_cons_of_mem _ z)
      · rcases List.mem_cons.mp hy with z | z
        · subst z; exact h3
        · rcases List.mem_cons.mp z with z | z
          · subst z; omega
          · exact h2 y (List.mem_cons_of_mem _ z)
theorem minInts_spec : ∀ (ns : List Int) (m : Int), minInts m ns ∈ m :: ns ∧ ∀ y ∈ m :: ns,  minInts m ns ≤ y
  | [], m => ⟨by simp [minInts], by simp [minInts]⟩
  | n :: ns, m => by
    rw [minInts]
    by_cases hc : n < m
    · rw [if_pos hc]
      obtain ⟨h1, h2⟩ := minInts_spec ns n
      have h3 := h2 n List.mem_cons_self
      refine ⟨List.mem_cons_of_mem _ h1, fun y hy => ?_⟩
      rcases List.mem_cons.mp hy with z | z
      · subst z; omega
      · exact h2 y z
    · rw [if_neg hc]
      obtain ⟨h1, h2⟩ := minInts_spec ns m
      have h3 := h2 m List.mem_cons_self
      refine ⟨?_, fun y hy => ?_⟩
      · rcases List.mem_cons.mp h1 with z | z
        · rw [z]; exact List.mem_cons_self
        · exact List.mem_cons_of_mem _ (List.mem_cons_of_mem _ z)
      · rcases List.mem_cons.mp hy with z | z
        · subst z; exact h3
        · rcases List.mem_cons.mp z with z | z
          · subst z; omega
          · exact h2 y (List.mem_cons_of_mem _ z)
def bestList (pick : Int → List Int → Int) (o : OV) : Res OV := match listOf o with
  | some ds => match intsOf ds with
    | some (n :: ns) => .ok (.fz (.int (pick n ns)))
    | _ => .bad
  | none => .bad
def maxS : List OV → Res OV
  | [.fz (.int i), .fz (.int j)] => .ok (.fz (.int (if j > i then j else i)))
  | [o] => bestList maxInts o
  | _ => .bad
def minS : List OV → Res OV
  | [.fz (.int i), .fz (.int j)] => .ok (.fz (.int (if j < i then j else i)))
  | [.fz (.int a), .fz (.int b), .fz (.int c)] => .ok (.fz (.int (if b < a then (if c < b then c else b) else (if c < a then c else a))))
  | [o] => bestList minInts o
  | _ => .bad
theorem best_open {pick : Int → List Int → Int} {F H : Hp} {o r : OV} {v : V} {K : PySem.W.Frag} (sm : Same F H) (w : View K F H o v) (e : bestList pick o = .ok r) : ∃ a n ns, v = .ref a ∧ SqL K H a ((n :: ns).map V.int) ∧ r = .fz (.int (pick n ns)) := by
  unfold bestList at e
  cases hl : listOf o with
  | none => rw [hl] at e; cases e
  | some ds =>
    rw [hl] at e
    dsimp only at e
    split at e
    · rename_i n ns hi
      cases e
      obtain ⟨a, vs, rfl, l, rr⟩ := w.list sm hl
      rw [intsOf_eq hi] at rr
      rw [rr.ints] at l
      exact ⟨a, n, ns, rfl, l.sql, rfl⟩
    · cases e
theorem cs_max (hc : X.calm = true) : CallS X (.builtin "max") maxS := by
  intro pins s σ F H vs us os r Q I sm rv wv e q
  unfold maxS at e
  split at e
  · obtain ⟨v, u, rfl, w1, w2⟩ := wv.two
    cases e
    exact call_max2 hc pins s σ H _ us Q I rv ⟨_, _, by rw [w1.int, w2.int], q _ _ _ (grow_int sm _)⟩
  · obtain ⟨v, rfl, w⟩ := wv.one
    obtain ⟨a, n, ns, rfl, l, rfl⟩ := best_open sm w e
    refine cr_max hc pins s σ H _ us Q I rv ⟨a, n :: ns, rfl, l, by simp, fun m h1 h2 => ?_⟩
    obtain ⟨g1, g2⟩ := maxInts_spec ns n
    have : m = maxInts n ns := Int.le_antisymm (g2 m h1) (h2 _ g1)
    rw [this]
    exact q _ _ _ (grow_int sm _)
  · cases e
theorem cs_min (hc : X.calm = true) : CallS X (.builtin "min") minS := by
  intro pins s σ F H vs us os r Q I sm rv wv e q
  unfold minS at e
  split at e
  · obtain ⟨v, u, rfl, w1, w2⟩ := wv.two
    cases e
    exact call_min2 hc pins s σ H _ us Q I rv ⟨_, _, by rw [w1.int, w2.int], q _ _ _ (grow_int sm _)⟩
  · obtain ⟨v, u, t, rfl, w1, w2, w3⟩ := wv.three
    cases e
    have e1 := w1.int
    have e2 := w2.int
    have e3 := w3.int
    subst e1 e2 e3
    cases rv with
    | cons r1 rv =>
      cases rv with
      | cons r2 rv =>
        cases rv with
        | cons r3 rv =>
          cases rv
          obtain ⟨t1, rfl⟩ := r1
          obtain ⟨t2, rfl⟩ := r2
          obtain ⟨t3, rfl⟩ := r3
          refine min_three_ints (I.ok.hd hc) fun h' tk k => ⟨_, H, I.kept k, ?_, q _ _ _ (grow_int sm _)⟩
          split <;> split <;> exact ⟨_, rfl⟩
  · obtain ⟨v, rfl, w⟩ := wv.one
    obtain ⟨a, n, ns, rfl, l, rfl⟩ := best_open sm w e
    refine cr_min hc pins s σ H _ us Q I rv ⟨a, n :: ns, rfl, l, by simp, fun m h1 h2 => ?_⟩
    obtain ⟨g1, g2⟩ := minInts_spec ns n
    have : m = minInts n ns := Int.le_antisymm (h2 _ g1) (g2 m h1)
    rw [this]
    exact q _ _ _ (grow_int sm _)
  · cases e
def sumS : List OV → Res OV
  | [o] => match listOf o with
    | some ds => match intsOf ds with
      | some ns => .ok (.fz (.int ns.sum))
      | none => .bad
    | none => .bad
  | _ => .bad
theorem cs_sum (hc : X.calm = true) : CallS X (.builtin "sum") sumS := by
  intro pins s σ F H vs us os r Q I sm rv wv e q
  unfold sumS at e
  split at e
  · rename_i o
    obtain ⟨v, rfl, w⟩ := wv.one
    cases hl : listOf o with
    | none => rw [hl] at e; cases e
    | some ds =>
      rw [hl] at e
      dsimp only at e
      cases hi : intsOf ds with
      | none => rw [hi] at e; cases e
      | some ns =>
        rw [hi] at e
        cases e
        obtain ⟨a, vs, rfl, l, rr⟩ := w.list sm hl
        rw [intsOf_eq hi] at rr
        rw [rr.ints] at l
        exact cr_sum hc pins s σ H _ us Q I rv ⟨a, ns, rfl, l.sql, q _ _ _ (grow_int sm _)⟩
  · cases e
def allS (isAll : Bool) : List OV → Res OV
  | [o] => match listOf o with
    | some ds => match blsOf ds with
      | some ns => .ok (.fz (.bl (if isAll then ns.all id else ns.any id)))
      | none => .bad
    | none => .bad
  | _ => .bad
theorem cs_all (hc : X.calm = true) (isAll : Bool) : CallS X (.builtin (if isAll then "all" else "any")) (allS isAll) := by
  intro pins s σ F H vs us os r Q I sm rv wv e q
  unfold allS at e
  split at e
  · rename_i o
    obtain ⟨v, rfl, w⟩ := wv.one
    cases hl : listOf o with
    | none => rw [hl] at e; cases e
    | some ds =>
      rw [hl] at e
      dsimp only at e
      cases hi : blsOf ds with
      | none => rw [hi] at e; cases e
      | some ns =>
        rw [hi] at e
        cases e
        obtain ⟨a, vs, rfl, l, rr⟩ := w.list sm hl
        rw [blsOf_eq hi] at rr
        rw [rr.bls] at l
        cases isAll with
        | true => exact cr_all hc pins s σ H _ us Q I rv ⟨a, ns, rfl, l.sql, q _ _ _ (grow_bl sm _)⟩
        | false => exact cr_any hc pins s σ H _ us Q I rv ⟨a, ns, rfl, l.sql, q _ _ _ (grow_bl sm _)⟩
  · cases e
def tupS : List OV → Res OV
  | [o] => match seqOf o with
    | some ds => .ok (.fz (.tup ds))
    | none => .bad
  | _ => .bad
theorem seqOf_list {o : OV} {ds : List D} (h : seqOf o = some ds) : o = .fz (.tup ds) ∨ listOf o = some ds := by
  unfold seqOf at h
  split at h
  · cases h; exact .inl rfl
  · exact .inr h
theorem cs_tuple : CallS X (.type "tuple") tupS := by
  intro pins s σ F H vs us os r Q I sm rv wv e q
  unfold tupS at e
  split at e
  · rename_i o
    obtain ⟨v, rfl, w⟩ := wv.one
    cases hl : seqOf o with
    | none => rw [hl] at e; cases e
    | some ds =>
      rw [hl] at e
      cases e
      rcases seqOf_list hl with h | h
      · subst h
        obtain ⟨a, vs, rfl, l, rr⟩ := w.tup sm
        exact call_tuple_of pins s σ H _ us Q I rv ⟨a, vs, rfl, .inr ⟨l, q _ _ _ (Grow.same sm w.fz)⟩⟩
      · obtain ⟨a, vs, rfl, l, rr⟩ := w.list sm h
        exact call_tuple_of pins s σ H _ us Q I rv ⟨a, vs, rfl, .inl ⟨l.sql, fun p np => q _ _ _ (Grow.tup sm np rr)⟩⟩
  · cases e
def lstS : List OV → Res OV
  | [o] => match seqOf o with
    | some ds => .ok (.ls (ds.map OV.fz))
    | none => .bad
  | _ => .bad
theorem cs_list : CallS X (.type "list") lstS := by
  intro pins s σ F H vs us os r Q I sm rv wv e q
  unfold lstS at e
  split at e
  · rename_i o
    obtain ⟨v, rfl, w⟩ := wv.one
    cases hl : seqOf o with
    | none => rw [hl] at e; cases e
    | some ds =>
      rw [hl] at e
      cases e
      obtain ⟨a, vs, rfl, l, rr⟩ := w.seq sm hl
      exact call_list_of pins s σ H _ us Q I rv ⟨a, vs, rfl, l, fun p np => q _ _ _ (Grow.lst sm np rr)⟩
  · cases e
def reprS : List OV → Res OV
  | [o] => gd (o.er.py.showable && decide (o.er.py.shown.length ≤ sizeLine) && decide (o.er.dep ≤ 60)) (.fz (.str o.er.py.shown))
  | _ => .bad
mutual
theorem D.noDict : ∀ d : D, d.py.hasDict = false
  | .non => by simp only [D.py, PyData.hasDict]
  | .bl b => by simp only [D.py, PyData.hasDict]
  | .int i => by simp only [D.py, PyData.hasDict]
  | .str x => by simp only [D.py, PyData.hasDict]
  | .tup xs => by simp only [D.py, PyData.hasDict]; exact D.noDicts xs
  | .lst xs => by simp only [D.py, PyData.hasDict]; exact D.noDicts xs
theorem D.noDicts : ∀ ds : List D, PyData.hasDictAll (D.pys ds) = false
  | [] => by simp only [D.pys, PyData.hasDictAll]
  | x :: xs => by simp only [D.pys, PyData.hasDictAll, D.noDict x, D.noDicts xs, Bool.or_self]
end
theorem cs_repr (hu : X.A.units + 65 < cLine) (hg : X.A.guards = some []) : CallS X (.builtin "repr") reprS := by
  intro pins s σ F H vs us os r Q I sm rv wv e q
  unfold reprS at e
  split at e
  · rename_i o
    obtain ⟨v, rfl, w⟩ := wv.one
    obtain ⟨hz, rfl⟩ := gd_ok e
    rw [Bool.and_eq_true, Bool.and_eq_true] at hz
    obtain ⟨⟨h1, h2⟩, h3⟩ := hz
    have h2 := of_decide_eq_true h2
    have h3 : o.er.py.depth ≤ 60 := of_decide_eq_true h3
    cases rv with
    | cons r1 rv =>
      cases rv
      rename_i u
      obtain ⟨as, rd⟩ := w.reads (K := X.K) I sm r1
      have fin : ∀ h' tk t, (∀ b o, s.heap.get? b = some o → h'.get? b = some o) → EP X pins σ Q (.str o.er.py.shown t) { s with heap := h', toks := tk } := fun h' tk t k => ⟨.str _, H, I.kept k, ⟨t, rfl⟩, q _ _ _ (grow_str sm _)⟩
      have fin0 : ∀ tk t, EP X pins σ Q (.str o.er.py.shown t) { s with toks := tk } := fun tk t => fin s.heap tk t fun _ _ z => z
      have hd := D.noDict o.er
      generalize o.er.py = d at *
      cases rd with
      | none => exact PySem.P.repr_of_none (by simpa [PyData.shown] using fin0 (s.toks + 1) s.toks)
      | bool b => exact PySem.P.repr_of_bool (by simpa [PyData.shown] using fin0 (s.toks + 1) s.toks)
      | int i t => exact PySem.P.repr_of_int (by simpa [PyData.showable] using h1) (by simpa [PyData.shown] using fin0 (s.toks + 1) s.toks)
      | str x t => exact PySem.P.repr_of_str (by simpa [PyData.shown] using fin0 (s.toks + 1) s.toks) (by simpa [PyData.shown] using h2)
      | list a1 a2 a3 a4 => exact repr_of_reads' (.list a1 a2 a3 a4) h1 (fun z => by rw [hd] at z; cases z) hg (by omega) (fun _ _ z => z) (fun h' u tk k => fin h' tk u k) h2
      | tuple a1 a2 a3 a4 => exact repr_of_reads' (.tuple a1 a2 a3 a4) h1 (fun z => by rw [hd] at z; cases z) hg (by omega) (fun _ _ z => z) (fun h' u tk k => fin h' tk u k) h2
      | dict a1 a2 a3 a4 a5 => exact repr_of_reads' (.dict a1 a2 a3 a4 a5) h1 (fun z => by rw [hd] at z; cases z) hg (by omega) (fun _ _ z => z) (fun h' u tk k => fin h' tk u k) h2
  · cases e
end
end Pf

/-! Pf5: slots stored, lists changed where they stand; statements. -/
namespace Pf
open PySem PySem.Spec PyProof.Rows L2

section
variable {K : PySem.W.Frag} {C : Fx} {F : Hp} {fp : Nat → List Addr} {τ : T} {σ : L2.St} {H : Hp}
theorem Rep.tmp {d : D} {v : V} (r : Rep K F d v) : Tmp K C F fp H (.fz d) v [] := ⟨Own.of_rep r, fun _ z => (nomatch z), fun _ z => (nomatch z), fun _ z => (nomatch z)⟩
theorem get_set {i j : Nat} {v w : V} {σ : L2.St} (h : j ≠ i) : (σ.set i (some v))[j]? = σ[j]? := List.getElem?_set_ne (Ne.symm h)
/-- a name is bound to a new value -/
theorem Rel.setSlot {i : Nat} {r : OV} {v : V} {as : List Addr} (R : Rel K C F fp τ σ H) (t : Tmp K C F fp H r v as) (hi : i < τ.length) (hn : i ∉ C.ios.map (·.1)) : Rel K C F (fpSet fp i as) (τ.set i (some r)) (σ.set i (some v)) H := by
  have hiσ : i < σ.length := by rw [← R.len]; exact hi
  have cs : ∀ {j : Nat} {a : Addr}, a ∈ fpSet fp i as j → (j = i ∧ a ∈ as) ∨ (j ≠ i ∧ a ∈ fp j) := fun {j a} h => by
    by_cases hj : j = i
    · subst hj; rw [fpSet_same] at h; exact .inl ⟨rfl, h⟩
    · rw [fpSet_ne hj] at h; exact .inr ⟨hj, h⟩
  refine ⟨R.sub, R.old, R.frame, R.new, by rw [List.length_set, List.length_set]; exact R.len, fun j o e => ?_, fun j k a h1 h2 => ?_, fun j a h => ?_, fun j a h => ?_, R.stay, fun p hp => ?_, R.ioc, fun p hp => ?_⟩
  · by_cases hj : j = i
    · subst hj
      rw [slotAt_set_same hi] at e
      cases e
      exact ⟨v, List.getElem?_set_self hiσ, by rw [fpSet_same]; exact t.own⟩
    · rw [slotAt_set_ne (Ne.symm hj)] at e
      obtain ⟨w, e1, q⟩ := R.slot j o e
      exact ⟨w, by rw [List.getElem?_set_ne (Ne.symm hj)]; exact e1, by rw [fpSet_ne hj]; exact q⟩
  · rcases cs h1 with ⟨e1, g1⟩ | ⟨e1, g1⟩
    · rcases cs h2 with ⟨e2, g2⟩ | ⟨e2, g2⟩
      · rw [e1, e2]
      · exact absurd g2 (t.apart a g1 k)
    · rcases cs h2 with ⟨e2, g2⟩ | ⟨e2, g2⟩
      · exact absurd g1 (t.apart a g2 j)
      · exact R.apart j k a g1 g2
  · rcases cs h with ⟨e1, g1⟩ | ⟨e1, g1⟩
    · exact ⟨(t.new a g1).1, .inl (t.new a g1).2⟩
    · exact R.own j a g1
  · rcases cs h with ⟨e1, g1⟩ | ⟨e1, g1⟩
    · obtain ⟨vs, e⟩ := t.own.there a g1
      rw [e]; simp
    · exact R.lay j a g1
  · have hpi : p.1 ≠ i := fun z => hn (by rw [← z]; exact List.mem_map_of_mem hp)
    rw [List.getElem?_set_ne (Ne.symm hpi)]
    exact R.lent p hp
  · obtain ⟨w, q⟩ := R.pend p hp
    refine ⟨w, fun a ha => ⟨(q a ha).1, (q a ha).2.1, fun j z => ?_⟩⟩
    rcases cs z with ⟨e1, g1⟩ | ⟨e1, g1⟩
    · exact t.free a g1 p hp ha
    · exact (q a ha).2.2 j g1
/-- a slot's own list is handed on; the slot is empty -/
theorem Rel.move {i : Nat} {o : OV} (R : Rel K C F fp τ σ H) (e : slotAt τ i = some o) (hn : i ∉ C.ios.map (·.1)) : ∃ v, σ[i]? = some (some v) ∧ Rel K C F (fpSet fp i []) (τ.set i none) σ H ∧ Tmp K C F (fpSet fp i []) H o v (fp i) := by
  obtain ⟨v, ev, w⟩ := R.slot i o e
  have il := slotAt_lt e
  have out : ∀ {j : Nat} {a : Addr}, a ∈ fpSet fp i [] j → j ≠ i ∧ a ∈ fp j := fun {j a} h => by
    by_cases hj : j = i
    · subst hj; rw [fpSet_same] at h; exact absurd h (by simp)
    · rw [fpSet_ne hj] at h; exact ⟨hj, h⟩
  refine ⟨v, ev, ⟨R.sub, R.old, R.frame, R.new, by rw [List.length_set]; exact R.len, fun j o' e' => ?_, fun j k a h1 h2 => R.apart j k a (out h1).2 (out h2).2, fun j a h => R.own j a (out h).2, fun j a h => R.lay j a (out h).2, R.stay, R.lent, R.ioc, fun p hp => ?_⟩,
    w, fun a ha j z => (out z).1 (R.apart j i a (out z).2 ha), fun a ha => ⟨(R.own i a ha).1, ?_⟩, fun a ha p hp z => ((R.pend p hp).2 a z).2.2 i ha⟩
  · by_cases hj : j = i
    · subst hj
      rw [slotAt_set_same il] at e'
      cases e'
    · rw [slotAt_set_ne (Ne.symm hj)] at e'
      rw [fpSet_ne hj]
      exact R.slot j o' e'
  · obtain ⟨w, q⟩ := R.pend p hp
    exact ⟨w, fun a ha => ⟨(q a ha).1, (q a ha).2.1, fun j z => (q a ha).2.2 j (out z).2⟩⟩
  · rcases (R.own i a ha).2 with z | z
    · exact z
    · exact absurd (R.ioc a i z) hn
theorem Owns.append_reps {ds : List D} {ws : List V} (r : Reps K F ds ws) : ∀ {os : List OV} {vs : List V} {as : List Addr}, Owns K F H os vs as → Owns K F H (os ++ ds.map OV.fz) (vs ++ ws) as
  | [], vs, as, h => by
    rw [Owns] at h
    obtain ⟨rfl, rfl⟩ := h
    exact Owns.of_reps r
  | x :: xs, vs, as, h => by
    rw [Owns] at h
    obtain ⟨v, us, bs, cs, rfl, rfl, q, qs, n⟩ := h
    rw [List.cons_append, List.cons_append, Owns]
    exact ⟨v, us ++ ws, bs, cs, rfl, rfl, q, Owns.append_reps r qs, n⟩
/-- a slot's own list is changed where it stands -/
theorem Rel.write {i : Nat} {xs ys : List OV} {a : Addr} {bs : List Addr} {vs : List V} (R : Rel K C F fp τ σ H) (e : slotAt τ i = some (.ls xs)) (ha : fp i = a :: bs)
    (w : Owns K F H ys vs bs) (n : a ∉ bs) (hv : σ[i]? = some (some (.ref a))) : Rel K C F fp (τ.set i (some (.ls ys))) σ (upd H a (.lst vs)) := by
  have il := slotAt_lt e
  have ai : a ∈ fp i := by rw [ha]; exact List.mem_cons_self
  have oth : ∀ j, j ≠ i → ∀ b ∈ fp j, b ≠ a := fun j hj b hb z => hj (R.apart j i a (by rw [← z]; exact hb) ai)
  have kp : ∀ b u, b ≠ a → H b = some u → upd H a (.lst vs) b = some u := fun b u hb h => by rw [upd_ne hb]; exact h
  refine ⟨same_updF R.sub (R.own i a ai).1, R.old, fun b o h1 h2 => ?_, R.new, by rw [List.length_set]; exact R.len, fun j o e' => ?_, R.apart, R.own, fun j b hb => ?_, fun b hb => ?_, R.lent, R.ioc, fun p hp => ?_⟩
  · refine kp b o (fun z => ?_) (R.frame b o h1 h2)
    subst z
    rcases (R.own i b ai).2 with z | z
    · rw [z] at h1; cases h1
    · rw [z] at h2; cases h2
  · by_cases hj : j = i
    · subst hj
      rw [slotAt_set_same il] at e'
      cases e'
      refine ⟨.ref a, hv, ?_⟩
      rw [Own, ha]
      exact ⟨a, vs, bs, rfl, rfl, upd_same, n, w.keep (Same.refl _) fun b hb u hu => kp b u (fun z => n (by rw [← z]; exact hb)) hu⟩
    · rw [slotAt_set_ne (Ne.symm hj)] at e'
      obtain ⟨u, e1, q⟩ := R.slot j o e'
      exact ⟨u, e1, q.keep (Same.refl _) fun b hb x hx => kp b x (oth j hj b hb) hx⟩
  · by_cases hb' : b = a
    · rw [hb', upd_same]; simp
    · rw [upd_ne hb']; exact R.lay j b hb
  · by_cases hb' : b = a
    · subst hb'; rw [upd_same] at hb; cases hb
    · rw [upd_ne hb'] at hb; exact R.stay b hb
  · obtain ⟨q, g⟩ := R.pend p hp
    have hpa : ∀ b ∈ p.2.2, b ≠ a := fun b hb z => (g b hb).2.2 i (by rw [z]; exact ai)
    refine ⟨q.keep (Same.refl _) fun b hb u hu => kp b u (hpa b hb) hu, fun b hb => ⟨(g b hb).1, ?_, (g b hb).2.2⟩⟩
    rw [upd_ne (hpa b hb)]
    exact (g b hb).2.1
theorem Rel.listSlot {i : Nat} {xs : List OV} (R : Rel K C F fp τ σ H) (e : slotAt τ i = some (.ls xs)) : ∃ a vs bs, σ[i]? = some (some (.ref a)) ∧ fp i = a :: bs ∧ H a = some (.lst vs) ∧ a ∉ bs ∧ Owns K F H xs vs bs := by
  obtain ⟨v, ev, w⟩ := R.slot i _ e
  rw [Own] at w
  obtain ⟨a, vs, bs, rfl, e2, q, n, r⟩ := w
  exact ⟨a, vs, bs, ev, e2, q, n, r⟩
end

/-! ### statements -/
inductive Fl where
  | nx
  | rt (r : OV)
  | bk
  | ct
abbrev FS := T → Res (Fl × T)
def endS (K : PySem.W.Frag) (C : Fx) (D : Ends) (F : Hp) (fp : Nat → List Addr) (σ : L2.St) (H : Hp) : Fl → Prop
  | .nx => D.nx σ H
  | .bk => D.bk σ H
  | .ct => D.ct σ H
  | .rt r => ∀ v as, Tmp K C F fp H r v as → D.rt v H
def rdS (K : PySem.W.Frag) (io : List Nat) (g : FS) : TS := fun D σ H => ∃ C F fp τ fl τ', C.ios.map (·.1) = io ∧ Rel K C F fp τ σ H ∧ g τ = .ok (fl, τ') ∧
  ∀ F' fp' σ' H', Rel K C F' fp' τ' σ' H' → Same F F' → endS K C D F' fp' σ' H' fl
def XS (X : Cx) (io : List Nat) (s : Stmt) (g : FS) : Prop := PS X s (rdS X.K io g)
def XB (X : Cx) (io : List Nat) (ss : List Stmt) (g : FS) : Prop := PSs X ss (rdS X.K io g)
theorem ps_weak {X : Cx} {s : Stmt} {t t' : TS} (h : PS X s t) (w : ∀ D σ H, t' D σ H → t D σ H) : PS X s t' := ⟨fun pins s σ H D I q => h.run pins s σ H D I (w D σ H q)⟩
theorem pss_weak {X : Cx} {s : List Stmt} {t t' : TS} (h : PSs X s t) (w : ∀ D σ H, t' D σ H → t D σ H) : PSs X s t' := ⟨fun pins s σ H D I q => h.run pins s σ H D I (w D σ H q)⟩
def nxS : FS := fun τ => .ok (.nx, τ)
def bkS : FS := fun τ => .ok (.bk, τ)
def ctS : FS := fun τ => .ok (.ct, τ)
def seqS (g h : FS) : FS := fun τ => (g τ).bind fun (fl, τ1) => match fl with
  | .nx => h τ1
  | fl => .ok (fl, τ1)
section
variable {X : Cx} {io : List Nat} {pos : Pos} {s : Stmt} {ss : List Stmt} {f c : FP} {g h : FS} {e : Expr}
theorem xb_nil : XB X io [] nxS := pss_weak pss_nil fun D σ H ⟨C, F, fp, τ, fl, τ', hio, R, e, q⟩ => by
  cases e
  exact q F fp σ H R (Same.refl _)
theorem xb_cons (h1 : XS X io s g) (h2 : XB X io ss h) : XB X io (s :: ss) (seqS g h) := by
  refine pss_weak (pss_cons h1 h2) fun D σ H ⟨C, F, fp, τ, fl, τ', hio, R, e, q⟩ => ?_
  obtain ⟨⟨fl1, τ1⟩, e1, e⟩ := Res.bind_ok e
  refine ⟨C, F, fp, τ, fl1, τ1, hio, R, e1, fun F1 fp1 σ1 H1 R1 s1 => ?_⟩
  cases fl1 with
  | nx => exact ⟨C, F1, fp1, τ1, fl, τ', hio, R1, e, fun F2 fp2 σ2 H2 R2 s2 => q F2 fp2 σ2 H2 R2 (s1.trans s2)⟩
  | rt r => cases e; exact q F1 fp1 σ1 H1 R1 s1
  | bk => cases e; exact q F1 fp1 σ1 H1 R1 s1
  | ct => cases e; exact q F1 fp1 σ1 H1 R1 s1
theorem xs_pass : XS X io (.Pass pos) nxS := ps_weak ps_pass fun D σ H ⟨C, F, fp, τ, fl, τ', hio, R, e, q⟩ => by
  cases e
  exact q F fp σ H R (Same.refl _)
theorem xs_break : XS X io (.Break pos) bkS := ps_weak ps_break fun D σ H ⟨C, F, fp, τ, fl, τ', hio, R, e, q⟩ => by
  cases e
  exact q F fp σ H R (Same.refl _)
theorem xs_continue : XS X io (.Continue pos) ctS := ps_weak ps_continue fun D σ H ⟨C, F, fp, τ, fl, τ', hio, R, e, q⟩ => by
  cases e
  exact q F fp σ H R (Same.refl _)
def ifS (c : FP) (g h : FS) : FS := fun τ => (tru c τ).bind fun (k, τ1) => if k = true then g τ1 else h τ1
theorem xs_if {a b : List Stmt} (hc : XT X io e (tru c)) (ha : XB X io a g) (hb : XB X io b h) : XS X io (.If e a b pos) (ifS c g h) := by
  refine ps_weak (ps_if hc ha hb) fun D σ H ⟨C, F, fp, τ, fl, τ', hio, R, e, q⟩ => ?_
  obtain ⟨⟨k, τ1⟩, e1, e⟩ := Res.bind_ok e
  refine ⟨C, F, fp, τ, k, τ1, hio, R, e1, fun F1 fp1 H1 R1 s1 => ?_⟩
  cases k with
  | true => exact ⟨C, F1, fp1, τ1, fl, τ', hio, R1, e, fun F2 fp2 σ2 H2 R2 s2 => q F2 fp2 σ2 H2 R2 (s1.trans s2)⟩
  | false => exact ⟨C, F1, fp1, τ1, fl, τ', hio, R1, e, fun F2 fp2 σ2 H2 R2 s2 => q F2 fp2 σ2 H2 R2 (s1.trans s2)⟩
def isComp : Expr → Bool
  | .ListComp _ _ _ _ => true
  | .SetComp _ _ _ _ => true
  | .DictComp _ _ _ _ _ => true
  | _ => false
theorem swaps_no {e : Expr} {t : Option Expr} {l : Nat} {env : Env} (h : isComp e = false) : swapsWith e t l env = pure false := by
  cases e <;> first | rfl | (exact absurd h (by simp [isComp]))
def exS (f : FP) : FS := fun τ => (f τ).bind fun (p, τ1) => .ok (.nx, τ1)
theorem xs_expr (hc : isComp e = false) (ha : XP X io e f) : XS X io (.Expr e pos) (exS f) := by
  refine ps_weak (ps_expr ha (swaps_no hc)) fun D σ H ⟨C, F, fp, τ, fl, τ', hio, R, e, q⟩ => ?_
  obtain ⟨⟨p, τ1⟩, e1, e⟩ := Res.bind_ok e
  cases e
  exact ⟨C, F, fp, τ, p, _, hio, R, e1, fun F1 fp1 H1 v R1 s1 w1 => q F1 fp1 σ H1 R1 s1⟩
theorem xs_doc {x : Str} {j : Nat} {p' : Pos} : XS X io (.Expr (.Constant (.str x) j p') pos) nxS := ps_weak ps_doc fun D σ H ⟨C, F, fp, τ, fl, τ', hio, R, e, q⟩ => by
  cases e
  exact q F fp σ H R (Same.refl _)
/-- a slot's own list is handed on when the def ends -/
def giveSlot (io : List Nat) (i : Nat) (τ : T) : Option OV → Res (OV × T)
  | some (.fz d) => .ok (.fz d, τ)
  | some (.ls xs) => if i ∈ io then .bad else .ok (.ls xs, τ.set i none)
  | none => .bad
def give (io : List Nat) (p : Pre) (τ : T) : Res (OV × T) := match p with
  | .val r => .ok (r, τ)
  | .sl i => giveSlot io i τ (slotAt τ i)
theorem Rel.give {K : PySem.W.Frag} {C : Fx} {F : Hp} {fp : Nat → List Addr} {τ τ' : T} {σ : L2.St} {H : Hp} {p : Pre} {v : V} {r : OV} (hio : C.ios.map (·.1) = io) (R : Rel K C F fp τ σ H) (h : PreR K C F fp σ H p v) (e : Pf.give io p τ = .ok (r, τ')) :
    ∃ fp' as, Rel K C F fp' τ' σ H ∧ Tmp K C F fp' H r v as := by
  cases p with
  | val r' =>
    obtain ⟨as, t⟩ := h
    cases e
    exact ⟨fp, as, R, t⟩
  | sl i =>
    have e : giveSlot io i τ (slotAt τ i) = .ok (r, τ') := e
    cases hs : slotAt τ i with
    | none => rw [hs] at e; cases e
    | some o =>
      rw [hs] at e
      cases o with
      | fz d =>
        cases e
        obtain ⟨w, e1, q⟩ := R.slot i _ hs
        have e2 : some (some w) = some (some v) := e1.symm.trans h
        cases e2
        rw [Own.fz_iff] at q
        exact ⟨fp, [], R, q.2.tmp⟩
      | ls xs =>
        have e : (if i ∈ io then Res.bad else Res.ok (OV.ls xs, τ.set i none)) = Res.ok (r, τ') := e
        by_cases hi : i ∈ io
        · rw [if_pos hi] at e; cases e
        · rw [if_neg hi] at e
          cases e
          obtain ⟨w, e1, R', t⟩ := R.move hs (by rw [hio]; exact hi)
          have e2 : some (some w) = some (some v) := e1.symm.trans h
          cases e2
          exact ⟨_, _, R', t⟩
def retS (io : List Nat) (f : FP) : FS := fun τ => (f τ).bind fun (p, τ1) => (give io p τ1).bind fun (r, τ2) => .ok (.rt r, τ2)
theorem xs_ret (ha : XP X io e f) : XS X io (.Return (some e) pos) (retS io f) := by
  refine ps_weak (ps_ret ha) fun D σ H ⟨C, F, fp, τ, fl, τ', hio, R, e, q⟩ => ?_
  obtain ⟨⟨p, τ1⟩, e1, e⟩ := Res.bind_ok e
  obtain ⟨⟨r, τ2⟩, e2, e⟩ := Res.bind_ok e
  cases e
  refine ⟨C, F, fp, τ, p, τ1, hio, R, e1, fun F1 fp1 H1 v R1 s1 w1 => ?_⟩
  obtain ⟨fp2, as, R2, t⟩ := R1.give hio w1 e2
  exact q F1 fp2 σ H1 R2 s1 v as t
def retN : FS := fun τ => .ok (.rt (.fz .non), τ)
theorem xs_retN : XS X io (.Return none pos) retN := ps_weak ps_retN fun D σ H ⟨C, F, fp, τ, fl, τ', hio, R, e, q⟩ => by
  cases e
  obtain ⟨as, t⟩ := ((grow_non R.sub).rel R).2
  exact q F fp σ H R (Same.refl _) _ as t

/-! ### stores -/
/-- what is stored: as a new own value, or as data -/
def take (io : List Nat) (own : Bool) (p : Pre) (τ : T) : Res (OV × T) := match own, p with
  | true, .val r => .ok (r, τ)
  | _, p => (settle io p τ).bind fun (d, τ') => .ok (.fz d, τ')
theorem Rel.take {K : PySem.W.Frag} {C : Fx} {F : Hp} {fp : Nat → List Addr} {τ τ' : T} {σ : L2.St} {H : Hp} {p : Pre} {v : V} {r : OV} {own : Bool} (hio : C.ios.map (·.1) = io) (R : Rel K C F fp τ σ H) (h : PreR K C F fp σ H p v) (e : Pf.take io own p τ = .ok (r, τ')) :
    ∃ F' fp' as, Rel K C F' fp' τ' σ H ∧ Same F F' ∧ Tmp K C F' fp' H r v as := by
  have data : ((Pf.settle io p τ).bind fun (d, τ') => Res.ok (OV.fz d, τ')) = .ok (r, τ') → ∃ F' fp' as, Rel K C F' fp' τ' σ H ∧ Same F F' ∧ Tmp K C F' fp' H r v as := fun e => by
    obtain ⟨⟨d, τ1⟩, e1, e⟩ := Res.bind_ok e
    cases e
    obtain ⟨F', fp', R', s, w⟩ := R.settle hio h e1
    exact ⟨F', fp', [], R', s, w.tmp⟩
  cases own with
  | false => exact data e
  | true =>
    cases p with
    | val r' =>
      obtain ⟨as, t⟩ := h
      cases e
      exact ⟨F, fp, as, R, Same.refl _, t⟩
    | sl i => exact data e
def putS (io : List Nat) (i : Nat) (r : OV) (τ : T) : Res T := gd (decide (i ∉ io) && decide (i < τ.length)) (τ.set i (some r))
theorem Rel.put {K : PySem.W.Frag} {C : Fx} {F : Hp} {fp : Nat → List Addr} {τ τ' : T} {σ : L2.St} {H : Hp} {i : Nat} {v : V} {r : OV} {as : List Addr} (hio : C.ios.map (·.1) = io) (R : Rel K C F fp τ σ H) (t : Tmp K C F fp H r v as) (e : putS io i r τ = .ok τ') :
    Rel K C F (fpSet fp i as) τ' (σ.set i (some v)) H := by
  obtain ⟨hz, rfl⟩ := gd_ok e
  rw [Bool.and_eq_true] at hz
  exact R.setSlot t (of_decide_eq_true hz.2) (by rw [hio]; exact of_decide_eq_true hz.1)
def setS (io : List Nat) (i : Nat) (own : Bool) (f : FP) : FS := fun τ => (f τ).bind fun (p, τ1) => (take io own p τ1).bind fun (r, τ2) => (putS io i r τ2).bind fun τ3 => .ok (.nx, τ3)
theorem set_open {i : Nat} {own : Bool} {D : Ends} {σ : L2.St} {H : Hp} (h : rdS X.K io (setS io i own f) D σ H) : tAsg (rdP X.K io f) (gName i) D σ H := by
  obtain ⟨C, F, fp, τ, fl, τ', hio, R, e, q⟩ := h
  obtain ⟨⟨p, τ1⟩, e1, e⟩ := Res.bind_ok e
  obtain ⟨⟨r, τ2⟩, e2, e⟩ := Res.bind_ok e
  obtain ⟨τ3, e3, e⟩ := Res.bind_ok e
  cases e
  refine ⟨C, F, fp, τ, p, τ1, hio, R, e1, fun F1 fp1 H1 v R1 s1 w1 => ?_⟩
  obtain ⟨F2, fp2, as, R2, s2, t⟩ := R1.take hio w1 e2
  exact q F2 _ _ H1 (R2.put hio t e3) (s1.trans s2)
theorem xs_set {i : Nat} {x : Str} {p' : Pos} {own : Bool} (hN : X.N.Nodup) (hi : X.N[i]? = some x) (hx : Loc X.env.scope x) (hf : X.fn x = true ∨ X.env.scope.names.lookup x = some .local) (hs : swapsWith e (some (.Name x p')) pos.line X.env = pure false) (ha : XP X io e f) :
    XS X io (.Assign [.Name x p'] e pos) (setS io i own f) := ps_weak (ps_set hN hi hx ha hs hf) fun _ _ _ h => set_open h

/-! ### targets: g stores, at the slots vs alone -/
abbrev FG := D → T → Res T
/-- nothing but the slots vs is otherwise -/
def Only (vs : List Nat) (σ σ' : L2.St) : Prop := σ'.length = σ.length ∧ ∀ j, j ∉ vs → σ'[j]? = σ[j]?
def rdG (K : PySem.W.Frag) (io vs : List Nat) (g : FG) : TG := fun v σ H Q => ∃ C F fp τ d τ', C.ios.map (·.1) = io ∧ Rel K C F fp τ σ H ∧ Rep K F d v ∧ g d τ = .ok τ' ∧
  ∀ F' fp' σ', Rel K C F' fp' τ' σ' H → Same F F' → Only vs σ σ' → Q σ' H
def XG (X : Cx) (io vs : List Nat) (e : Expr) (g : FG) : Prop := PG X e (rdG X.K io vs g)
theorem pg_weak {X : Cx} {e : Expr} {t t' : TG} (h : PG X e t) (w : ∀ v σ H Q, t' v σ H Q → t v σ H Q) : PG X e t' := ⟨fun pins s σ H v u Q I r q => h.run pins s σ H v u Q I r (w v σ H Q q)⟩
def nameG (io : List Nat) (i : Nat) : FG := fun d τ => putS io i (.fz d) τ
theorem xg_name {i : Nat} {x : Str} (hN : X.N.Nodup) (hi : X.N[i]? = some x) (hx : Loc X.env.scope x) (hf : X.fn x = true ∨ X.env.scope.names.lookup x = some .local) : XG X io [i] (.Name x pos) (nameG io i) := by
  refine pg_weak (pg_name hN hi hx hf) fun v σ H Q ⟨C, F, fp, τ, d, τ', hio, R, r, e, q⟩ => ?_
  exact q F _ _ (R.put hio r.tmp e) (Same.refl _) ⟨List.length_set, fun j hj => List.getElem?_set_ne fun z => hj (by simp [z])⟩
abbrev FGs := List D → T → Res T
def rdGs (K : PySem.W.Frag) (io vs : List Nat) (g : FGs) : TGs := fun us σ H Q => ∃ C F fp τ ds τ', C.ios.map (·.1) = io ∧ Rel K C F fp τ σ H ∧ Reps K F ds us ∧ g ds τ = .ok τ' ∧
  ∀ F' fp' σ', Rel K C F' fp' τ' σ' H → Same F F' → Only vs σ σ' → Q σ' H
def XGs (X : Cx) (io vs : List Nat) (es : List Expr) (g : FGs) : Prop := PGs X es (rdGs X.K io vs g)
theorem pgs_weak {X : Cx} {e : List Expr} {t t' : TGs} (h : PGs X e t) (w : ∀ v σ H Q, t' v σ H Q → t v σ H Q) : PGs X e t' := ⟨fun pins s σ H v u Q I r q => h.run pins s σ H v u Q I r (w v σ H Q q)⟩
def nilG : FGs := fun ds τ => match ds with
  | [] => .ok τ
  | _ => .bad
def consG (g : FG) (h : FGs) : FGs := fun ds τ => match ds with
  | d :: ds => (g d τ).bind fun τ1 => h ds τ1
  | [] => .bad
theorem assign_cons {e : Expr} {es : List Expr} {env : Env} (h : notStar e = true) : (assignEach (e :: es) env).map (·.2) = assign e env :: (assignEach es env).map (·.2) := by
  cases e <;> first | rfl | (exact absurd h (by simp [notStar]))
theorem xgs_nil : XGs X io [] [] nilG := pgs_weak pgs_nil fun v σ H Q ⟨C, F, fp, τ, ds, τ', hio, R, r, e, q⟩ => by
  cases ds with
  | nil =>
    cases e
    rw [Reps] at r
    exact ⟨r, q F fp σ R (Same.refl _) ⟨rfl, fun _ _ => rfl⟩⟩
  | cons d ds => cases e
theorem xgs_cons {t : Expr} {ts : List Expr} {g : FG} {h : FGs} {v1 v2 : List Nat} (hn : notStar t = true) (h1 : XG X io v1 t g) (h2 : XGs X io v2 ts h) : XGs X io (v1 ++ v2) (t :: ts) (consG g h) := by
  refine pgs_weak (pgs_cons h1 h2 (assign_cons hn)) fun v σ H Q ⟨C, F, fp, τ, ds, τ', hio, R, r, e, q⟩ => ?_
  cases ds with
  | nil => cases e
  | cons d ds =>
    obtain ⟨τ1, e1, e2⟩ := Res.bind_ok e
    rw [Reps] at r
    obtain ⟨u, us, rfl, r1, rs⟩ := r
    refine ⟨u, us, rfl, C, F, fp, τ, d, τ1, hio, R, r1, e1, fun F1 fp1 σ1 R1 s1 n1 => ⟨C, F1, fp1, τ1, ds, τ', hio, R1, rs.mono s1, e2, fun F2 fp2 σ2 R2 s2 n2 => q F2 fp2 σ2 R2 (s1.trans s2) ⟨n2.1.trans n1.1, fun j hj => ?_⟩⟩⟩
    rw [List.mem_append, not_or] at hj
    exact (n2.2 j hj.2).trans (n1.2 j hj.1)
def tupG (n : Nat) (h : FGs) : FG := fun d τ => match d with
  | .tup ds => if ds.length = n then h ds τ else .bad
  | _ => .bad
theorem assign_len {env : Env} : ∀ {es : List Expr}, es.all notStar = true → (assignEach es env).length = es.length ∧ (assignEach es env).findIdx? (·.1) = none
  | [], _ => ⟨rfl, rfl⟩
  | e :: es, h => by
    rw [List.all_cons, Bool.and_eq_true] at h
    obtain ⟨h1, h2⟩ := assign_len (env := env) h.2
    have hc : assignEach (e :: es) env = (false, assign e env) :: assignEach es env := by
      cases e <;> first | rfl | (exact absurd h.1 (by simp [notStar]))
    rw [hc]
    exact ⟨by rw [List.length_cons, List.length_cons, h1], by rw [List.findIdx?_cons]; simp [h2]⟩
theorem xg_tup {es : List Expr} {k : Nat} {h : FGs} {vs : List Nat} (hc : X.calm = true) (hn : es.all notStar = true) (hs : XGs X io vs es h) : XG X io vs (.Tuple es k pos) (tupG es.length h) := by
  obtain ⟨l1, l2⟩ := assign_len (env := X.env) hn
  refine pg_weak (pg_tup hc hs l1 l2) fun v σ H Q ⟨C, F, fp, τ, d, τ', hio, R, r, e, q⟩ => ?_
  unfold tupG at e
  split at e
  · rename_i ds
    split at e
    · rename_i hl
      rw [Rep] at r
      obtain ⟨a, vs, rfl, l, rs⟩ := r
      exact ⟨a, vs, rfl, sqt_mono R.sub l, by rw [← rs.length]; exact hl, C, F, fp, τ, ds, τ', hio, R, rs, e, q⟩
    · cases e
  · cases e
/-- target = e, the target a tuple -/
def asgS (io : List Nat) (g : FG) (f : FP) : FS := fun τ => (f τ).bind fun (p, τ1) => (settle io p τ1).bind fun (d, τ2) => (g d τ2).bind fun τ3 => .ok (.nx, τ3)
theorem asg_open {vs : List Nat} {g : FG} {D : Ends} {σ : L2.St} {H : Hp} (h : rdS X.K io (asgS io g f) D σ H) : tAsg (rdP X.K io f) (rdG X.K io vs g) D σ H := by
  obtain ⟨C, F, fp, τ, fl, τ', hio, R, e, q⟩ := h
  obtain ⟨⟨p, τ1⟩, e1, e⟩ := Res.bind_ok e
  obtain ⟨⟨r, τ2⟩, e2, e⟩ := Res.bind_ok e
  obtain ⟨τ3, e3, e⟩ := Res.bind_ok e
  cases e
  refine ⟨C, F, fp, τ, p, τ1, hio, R, e1, fun F1 fp1 H1 v R1 s1 w1 => ?_⟩
  obtain ⟨F2, fp2, R2, s2, t⟩ := R1.settle hio w1 e2
  exact ⟨C, F2, fp2, τ2, r, _, hio, R2, t, e3, fun F3 fp3 σ3 R3 s3 _ => q F3 fp3 σ3 H1 R3 ((s1.trans s2).trans s3)⟩
/-- no display on the right: nothing is exchanged -/
def isTuple : Expr → Bool
  | .Tuple _ _ _ => true
  | _ => false
theorem swapped_no {t e : Expr} {env : Env} (h : isTuple e = false) : swappedStores [t] e env = pure none := by
  unfold swappedStores
  cases e <;> first | (cases t <;> rfl) | (exact absurd h (by simp [isTuple]))
theorem xs_asg {t : Expr} {g : FG} {vs : List Nat} (hn : notStar t = true) (hc : isComp e = false) (hw : swappedStores [t] e X.env = pure none) (ht : XG X io vs t g) (ha : XP X io e f) : XS X io (.Assign [t] e pos) (asgS io g f) :=
  ps_weak (ps_asg ha ht (swaps_no hc) hw (assign_cons hn)) fun _ _ _ h => asg_open h
end
end Pf

/-! Pf6: loops; what they walk; several values at once; lists changed where they stand. -/
namespace Pf
open PySem PySem.Spec PyProof.Rows L2

/-! ### while -/
def whl (c : FP) (g : FS) : Nat → FS
  | 0 => fun _ => .bad
  | n + 1 => fun τ => (tru c τ).bind fun (k, τ1) => if k = true then (g τ1).bind fun (fl, τ2) => (match fl with
    | .nx => whl c g n τ2
    | .ct => whl c g n τ2
    | .bk => .ok (.nx, τ2)
    | .rt r => .ok (.rt r, τ2)) else .ok (.nx, τ1)
/-- the turns that a while may take here -/
def WF : Nat := 2 ^ 40
def whlS (c : FP) (g : FS) : FS := whl c g WF
section
variable {X : Cx} {io : List Nat} {pos : Pos} {s : Stmt} {ss : List Stmt} {f c : FP} {g h : FS} {e : Expr}
theorem xs_while {body : List Stmt} (hp : PassesOwn (model X.prog X.w) X.A X.env X.xe) (hc : XT X io e (tru c)) (hb : XB X io body g) : XS X io (.While e body [] pos) (whlS c g) := by
  refine ps_weak (ps_while hp hc hb) fun D σ H ⟨C, F, fp, τ, fl, τ', hio, R, e0, q⟩ => ?_
  refine ⟨fun m σ H => ∃ F1 fp1 τ1, Rel X.K C F1 fp1 τ1 σ H ∧ Same F F1 ∧ whl c g m τ1 = .ok (fl, τ'), ⟨WF, F, fp, τ, R, Same.refl _, e0⟩, ?_⟩
  rintro m σ1 H1 ⟨F1, fp1, τ1, R1, s1, e1⟩
  cases m with
  | zero => cases e1
  | succ m =>
    rw [whl] at e1
    obtain ⟨⟨k, τ2⟩, e2, e1⟩ := Res.bind_ok e1
    refine ⟨C, F1, fp1, τ1, k, τ2, hio, R1, e2, fun F2 fp2 H2 R2 s2 => ?_⟩
    cases k with
    | false =>
      have e1 : Res.ok (Fl.nx, τ2) = Res.ok (fl, τ') := e1
      cases e1
      exact q F2 fp2 σ1 H2 R2 (s1.trans s2)
    | true =>
      have e1 : ((g τ2).bind fun (fl, τ2) => (match fl with
        | .nx => whl c g m τ2
        | .ct => whl c g m τ2
        | .bk => .ok (.nx, τ2)
        | .rt r => .ok (.rt r, τ2))) = Res.ok (fl, τ') := e1
      obtain ⟨⟨fl3, τ3⟩, e3, e4⟩ := Res.bind_ok e1
      refine ⟨fun σ' H' => ∃ F1 fp1 τ1, Rel X.K C F1 fp1 τ1 σ' H' ∧ Same F F1 ∧ whl c g m τ1 = .ok (fl, τ'), fun σ' H' w => ⟨m, Nat.lt_succ_self _, w⟩, ?_⟩
      refine ⟨C, F2, fp2, τ2, fl3, τ3, hio, R2, e3, fun F3 fp3 σ3 H3 R3 s3 => ?_⟩
      have s13 := (s1.trans s2).trans s3
      cases fl3 with
      | nx => exact ⟨F3, fp3, τ3, R3, s13, e4⟩
      | ct => exact ⟨F3, fp3, τ3, R3, s13, e4⟩
      | bk => cases e4; exact q F3 fp3 σ3 H3 R3 s13
      | rt r => cases e4; exact q F3 fp3 σ3 H3 R3 s13

/-! ### what is walked -/
/-- the iterator hands out the items ds while what was frozen stays -/
structure Turns (K : PySem.W.Frag) (F : Hp) (J : It) (ds : List D) : Prop where
  go : ∀ i H, i < ds.length → Same F H → J.go i H
  stop : ∀ H, Same F H → J.stop ds.length H
  yld : ∀ i H x H' d, ds[i]? = some d → Same F H → J.yld i H x H' → ∀ F1, Same F F1 → Same F1 H → ∃ F2, Grow K F1 H (.fz d) x F2 H'
abbrev FI := T → Res (List D × T)
def rdI (K : PySem.W.Frag) (io : List Nat) (h : FI) : TI := fun σ H R => ∃ C F fp τ ds τ', C.ios.map (·.1) = io ∧ Rel K C F fp τ σ H ∧ h τ = .ok (ds, τ') ∧
  ∀ F' fp' H' J, Rel K C F' fp' τ' σ H' → Same F F' → Turns K F' J ds → R J H'
def XI (X : Cx) (io : List Nat) (tg e : Expr) (h : FI) : Prop := PI X tg e (rdI X.K io h)
theorem pi_weak {X : Cx} {tg e : Expr} {t t' : TI} (h : PI X tg e t) (w : ∀ σ H R, t' σ H R → t σ H R) : PI X tg e t' := ⟨fun pins s σ H R I q => h.run pins s σ H R I (w σ H R q)⟩
def forL (g : FG) (b : FS) : List D → FS
  | [] => nxS
  | d :: ds => fun τ => (g d τ).bind fun τ1 => (b τ1).bind fun (fl, τ2) => (match fl with
    | .nx => forL g b ds τ2
    | .ct => forL g b ds τ2
    | .bk => .ok (.nx, τ2)
    | .rt r => .ok (.rt r, τ2))
def forS (h : FI) (g : FG) (b : FS) : FS := fun τ => (h τ).bind fun (ds, τ1) => forL g b ds τ1
theorem folded_no {e : Expr} {env : Env} (h : ∀ es k p, e ≠ .Set es k p) : ∀ x, foldedSetIterable e env x = pure x := by
  intro x
  cases e <;> first | rfl | (exact absurd rfl (h _ _ _))
theorem drop_at {α : Type} {l : List α} {i : Nat} (h : i < l.length) : l.drop i = l[i] :: l.drop (i + 1) := List.drop_eq_getElem_cons h
theorem xs_for {tg iter : Expr} {body : List Stmt} {hi : FI} {gt : FG} {vs : List Nat} (hp : PassesOwn (model X.prog X.w) X.A X.env X.xe) (hc : X.calm = true) (hs : ∀ x, foldedSetIterable iter X.env x = pure x) (h1 : XI X io tg iter hi) (h2 : XG X io vs tg gt) (h3 : XB X io body g) :
    XS X io (.For tg iter body [] pos) (forS hi gt g) := by
  refine ps_weak (ps_for hp hc h1 h2 h3 hs) fun D σ H ⟨C, F, fp, τ, fl, τ', hio, R, e, q⟩ => ?_
  obtain ⟨⟨ds, τ1⟩, e1, e2⟩ := Res.bind_ok e
  refine ⟨C, F, fp, τ, ds, τ1, hio, R, e1, fun F1 fp1 H1 J R1 s1 t => ?_⟩
  refine ⟨fun i m σ H => m = ds.length - i ∧ i ≤ ds.length ∧ ∃ F2 fp2 τ2, Rel X.K C F2 fp2 τ2 σ H ∧ Same F1 F2 ∧ forL gt g (ds.drop i) τ2 = .ok (fl, τ'), ⟨ds.length, rfl, Nat.zero_le _, F1, fp1, τ1, R1, Same.refl _, e2⟩, ?_⟩
  rintro i m σ2 H2 ⟨rfl, hi2, F2, fp2, τ2, R2, s2, e3⟩
  by_cases hlt : i < ds.length
  · rw [drop_at hlt, forL] at e3
    obtain ⟨τ3, e4, e5⟩ := Res.bind_ok e3
    obtain ⟨⟨fl4, τ4⟩, e6, e7⟩ := Res.bind_ok e5
    refine .inr ⟨t.go i H2 hlt (s2.trans R2.sub), fun σ' H' => ∃ F2 fp2 τ2, Rel X.K C F2 fp2 τ2 σ' H' ∧ Same F1 F2 ∧ forL gt g (ds.drop (i + 1)) τ2 = .ok (fl, τ'), fun σ' H' w => ⟨ds.length - (i + 1), by omega, rfl, hlt, w⟩, fun x H3 y => ?_⟩
    obtain ⟨F3, gr⟩ := t.yld i H2 x H3 ds[i] (List.getElem?_eq_getElem hlt) (s2.trans R2.sub) y F2 s2 R2.sub
    obtain ⟨R3, as, tm⟩ := gr.rel R2
    have rx := tm.own
    rw [Own.fz_iff] at rx
    refine ⟨C, F3, fp2, τ2, ds[i], τ3, hio, R3, rx.2, e4, fun F4 fp4 σ4 R4 s4 _ => ?_⟩
    refine ⟨C, F4, fp4, τ3, fl4, τ4, hio, R4, e6, fun F5 fp5 σ5 H5 R5 s5 => ?_⟩
    have s15 : Same F1 F5 := ((s2.trans gr.frozen).trans s4).trans s5
    cases fl4 with
    | nx => exact ⟨F5, fp5, τ4, R5, s15, e7⟩
    | ct => exact ⟨F5, fp5, τ4, R5, s15, e7⟩
    | bk => cases e7; exact q F5 fp5 σ5 H5 R5 (s1.trans s15)
    | rt r => cases e7; exact q F5 fp5 σ5 H5 R5 (s1.trans s15)
  · have ei : i = ds.length := by omega
    subst ei
    rw [List.drop_length] at e3
    cases e3
    exact .inl ⟨t.stop H2 (s2.trans R2.sub), q F2 fp2 σ2 H2 R2 (s1.trans s2)⟩

/-! sources -/
def chars (z : Str) : List D := z.cps.toList.map fun c => .str ⟨#[c]⟩
def itemsOf : D → Option (List D)
  | .tup ds => some ds
  | .lst ds => some ds
  | .str z => some (chars z)
  | _ => none
def itF (io : List Nat) (f : FP) : FI := fun τ => (f τ).bind fun (p, τ1) => (settle io p τ1).bind fun (d, τ2) => match itemsOf d with
  | some ds => .ok (ds, τ2)
  | none => .bad
def iAny (K : PySem.W.Frag) (te : TE) : TI := fun σ H R => te σ H fun x H1 => (∃ a xs, x = .ref a ∧ SqL K H1 a xs ∧ R (Itl K a) H1) ∨ (∃ a xs, x = .ref a ∧ SqT K H1 a xs ∧ R (Itt K a) H1) ∨ ∃ z, x = .str z ∧ R (Its z) H1
theorem pi_any {tg : Expr} {te : TE} (he : PE X e te) : PI X tg e (iAny X.K te) := by
  refine ⟨fun pins s σ H R I w => ?_⟩
  refine thn (he.run pins s σ H _ I w) fun v s1 ⟨x, H1, I1, r1, q⟩ => ?_
  rcases q with ⟨a, xs, rfl, l, q⟩ | ⟨a, xs, rfl, l, q⟩ | ⟨z, rfl, q⟩
  · cases r1
    obtain ⟨its, rv, p, hz⟩ := I1.list l
    exact wpAny_pyIter_list p.isList (pi_one (tk := s1.toks) I1 _ (turn_list a _) ⟨_, Heap.get?_push_size _ rfl, rfl, rfl⟩ q)
  · cases r1
    obtain ⟨its, rv, p, hz⟩ := I1.tuple l
    exact wpAny_pyIter_tuple (show s1.heap.IsTuple a its.toArray from p) (pi_one (tk := s1.toks) I1 _ (turn_tuple a _) ⟨_, Heap.get?_push_size _ rfl, rfl, rfl⟩ q)
  · obtain ⟨t, rfl⟩ := r1
    cases ha : z.cps.all (· < 128) with
    | false => exact wpAny_pyIter_wide ha (pi_one (tk := s1.toks) I1 _ (turn_str _ z t "str_iterator" (.inr rfl)) ⟨_, Heap.get?_push_size _ rfl, rfl, rfl⟩ q)
    | true => exact wpAny_pyIter_ascii ha (pi_one (tk := s1.toks) I1 _ (turn_str _ z t "str_ascii_iterator" (.inl rfl)) ⟨_, Heap.get?_push_size _ rfl, rfl, rfl⟩ q)
theorem turns_list {K : PySem.W.Frag} {F : Hp} {a : Addr} {vs : List V} {ds : List D} (l : SqL K F a vs) (r : Reps K F ds vs) : Turns K F (Itl K a) ds where
  go := fun i H hi s => by
    have hv : i < vs.length := by rw [← r.length]; exact hi
    exact ⟨vs, vs[i], Same.seq s l, List.getElem?_eq_getElem hv⟩
  stop := fun H s => ⟨vs, Same.seq s l, Nat.le_of_eq r.length.symm⟩
  yld := fun i H x H' d hd s y F1 s1 s2 => by
    obtain ⟨rfl, y⟩ := y
    obtain ⟨v, ev, rv⟩ := r.get hd
    have := y vs (Same.seq s l)
    rw [ev] at this
    cases this
    exact ⟨F1, Grow.same s2 (rv.mono s1)⟩
theorem turns_tup {K : PySem.W.Frag} {F : Hp} {a : Addr} {vs : List V} {ds : List D} (l : SqT K F a vs) (r : Reps K F ds vs) : Turns K F (Itt K a) ds where
  go := fun i H hi s => by
    have hv : i < vs.length := by rw [← r.length]; exact hi
    exact ⟨vs, vs[i], sqt_mono s l, List.getElem?_eq_getElem hv⟩
  stop := fun H s => ⟨vs, sqt_mono s l, Nat.le_of_eq r.length.symm⟩
  yld := fun i H x H' d hd s y F1 s1 s2 => by
    obtain ⟨rfl, y⟩ := y
    obtain ⟨v, ev, rv⟩ := r.get hd
    have := y vs (sqt_mono s l)
    rw [ev] at this
    cases this
    exact ⟨F1, Grow.same s2 (rv.mono s1)⟩
theorem chars_len (z : Str) : (chars z).length = z.cps.size := by unfold chars; rw [List.length_map, Array.length_toList]
theorem turns_str {K : PySem.W.Frag} {F : Hp} (z : Str) : Turns K F (Its z) (chars z) where
  go := fun i H hi s => by rw [chars_len] at hi; exact hi
  stop := fun H s => Nat.le_of_eq (chars_len z).symm
  yld := fun i H x H' d hd s y F1 s1 s2 => by
    obtain ⟨rfl, c, ec, rfl⟩ := y
    unfold chars at hd
    rw [List.getElem?_map, Array.getElem?_toList, ec] at hd
    cases hd
    exact ⟨F1, Grow.same s2 (by rw [Rep])⟩
theorem xi_it {tg : Expr} (he : XP X io e f) : XI X io tg e (itF io f) := by
  refine pi_weak (pi_any he) fun σ H R ⟨C, F, fp, τ, ds, τ', hio, R0, e, q⟩ => ?_
  obtain ⟨⟨p, τ1⟩, e1, e⟩ := Res.bind_ok e
  obtain ⟨⟨d, τ2⟩, e2, e⟩ := Res.bind_ok e
  refine ⟨C, F, fp, τ, p, τ1, hio, R0, e1, fun F1 fp1 H1 v R1 s1 w1 => ?_⟩
  obtain ⟨F2, fp2, R2, s2, w2⟩ := R1.settle hio w1 e2
  dsimp only at e
  cases d with
  | tup xs =>
    cases e
    rw [Rep] at w2
    obtain ⟨a, vs, rfl, l, rr⟩ := w2
    exact .inr (.inl ⟨a, vs, rfl, sqt_mono R2.sub l, q F2 fp2 H1 _ R2 (s1.trans s2) (turns_tup l rr)⟩)
  | lst xs =>
    cases e
    rw [Rep] at w2
    obtain ⟨a, vs, rfl, l, rr⟩ := w2
    exact .inl ⟨a, vs, rfl, (l.mono R2.sub).sql, q F2 fp2 H1 _ R2 (s1.trans s2) (turns_list l.sql rr)⟩
  | str z =>
    cases e
    rw [Rep] at w2
    exact .inr (.inr ⟨z, w2, q F2 fp2 H1 _ R2 (s1.trans s2) (turns_str z)⟩)
  | _ => cases e
/-- range of one, two, three ints -/
def rangeL (lo : Int) (n : Nat) (c : Int) : List D := (List.range n).map fun i => .int (lo + (i : Nat) * c)
def okR (i : Int) : Bool := decide (-(2 ^ 62) ≤ i ∧ i < 2 ^ 62)
def range1S : List OV → Res (List D)
  | [.fz (.int j)] => gd (okR j) (rangeL 0 j.toNat 1)
  | _ => .bad
def range2S : List OV → Res (List D)
  | [.fz (.int i), .fz (.int j)] => gd (okR i && okR j) (rangeL i (j - i).toNat 1)
  | _ => .bad
def range3S : List OV → Res (List D)
  | [.fz (.int i), .fz (.int j), .fz (.int c)] => gd (decide (c ≠ 0 ∧ c.natAbs < 1073741824 ∧ 0 ≤ Builtin.Range.rangeSize i j c) && Builtin.Range.small i j c) (rangeL i (Builtin.Range.rangeSize i j c).toNat c)
  | _ => .bad
def rngF (k : List OV → Res (List D)) (h : FA) : FI := fun τ => (h τ).bind fun (ps, τ1) => match vws τ1 ps with
  | some os => (k os).bind fun ds => .ok (ds, τ1)
  | none => .bad
theorem rangeL_get {lo : Int} {n : Nat} {c : Int} {i : Nat} {d : D} (h : (rangeL lo n c)[i]? = some d) : d = .int (lo + (i : Nat) * c) ∧ i < n := by
  unfold rangeL at h
  rw [List.getElem?_map] at h
  by_cases hi : i < n
  · rw [List.getElem?_range hi] at h
    cases h
    exact ⟨rfl, hi⟩
  · rw [List.getElem?_eq_none (by rw [List.length_range]; omega)] at h
    cases h
theorem rangeL_len {lo : Int} {n : Nat} {c : Int} : (rangeL lo n c).length = n := by unfold rangeL; rw [List.length_map, List.length_range]
theorem turns_rng {K : PySem.W.Frag} {F : Hp} {lo : Int} {n : Nat} : Turns K F (Itr lo n) (rangeL lo n 1) where
  go := fun i H hi s => by rw [rangeL_len] at hi; exact hi
  stop := fun H s => Nat.le_of_eq rangeL_len.symm
  yld := fun i H x H' d hd s y F1 s1 s2 => by
    obtain ⟨rfl, rfl⟩ := y
    obtain ⟨rfl, _⟩ := rangeL_get hd
    exact ⟨F1, Grow.same s2 (by rw [Rep, Int.mul_one])⟩
theorem turns_rngC {K : PySem.W.Frag} {F : Hp} {lo c : Int} {n : Nat} : Turns K F (Itc lo c n) (rangeL lo n c) where
  go := fun i H hi s => by rw [rangeL_len] at hi; exact hi
  stop := fun H s => Nat.le_of_eq rangeL_len.symm
  yld := fun i H x H' d hd s y F1 s1 s2 => by
    obtain ⟨rfl, rfl⟩ := y
    obtain ⟨rfl, _⟩ := rangeL_get hd
    exact ⟨F1, Grow.same s2 (by rw [Rep])⟩
theorem star_list {es : List Expr} {env : Env} (h : es.all notStar = true) : starEach es env = es.map fun e => (false, eval e env) := by
  induction es with
  | nil => rfl
  | cons e es ih =>
    rw [List.all_cons, Bool.and_eq_true] at h
    rw [star_cons h.1, ih h.2]
    rfl
theorem rng_open {k : List OV → Res (List D)} {h : FA} {σ : L2.St} {H : Hp} {R : It → Hp → Prop} (w : rdI X.K io (rngF k h) σ H R) :
    rdA X.K io h σ H fun vs H1 => ∃ F os ds, Same F H1 ∧ Views X.K F H1 os vs ∧ k os = .ok ds ∧ ∀ J, Turns X.K F J ds → R J H1 := by
  obtain ⟨C, F, fp, τ, ds, τ', hio, R0, e, q⟩ := w
  obtain ⟨⟨ps, τ1⟩, e1, e⟩ := Res.bind_ok e
  refine ⟨C, F, fp, τ, ps, τ1, hio, R0, e1, fun F1 fp1 H1 vs R1 s1 w1 => ?_⟩
  dsimp only at e
  cases hx : vws τ1 ps with
  | none => rw [hx] at e; cases e
  | some os =>
    rw [hx] at e
    obtain ⟨xs, e2, e⟩ := Res.bind_ok e
    cases e
    exact ⟨F1, os, _, R1.sub, R1.vws w1 hx, e2, fun J t => q F1 fp1 H1 J R1 s1 t⟩
theorem xi_range1 {tg a : Expr} {p : Pos} {h : FA} (hg : Gl X "range") (hm : X.mg "range" = none) (hn : [a].all notStar = true) (ha : XA X io [a] h) : XI X io tg (.Call (.Name "range" p) [a] [] pos) (rngF range1S h) := by
  refine pi_weak (pi_range1 hg hm ha (star_list hn)) fun σ H R w => ?_
  obtain ⟨C, F, fp, τ, ps, τ1, hio, R0, e1, q⟩ := rng_open w
  refine ⟨C, F, fp, τ, ps, τ1, hio, R0, e1, fun F1 fp1 H1 vs R1 s1 w1 => ?_⟩
  obtain ⟨F2, os, ds, sm, wv, e2, q2⟩ := q F1 fp1 H1 vs R1 s1 w1
  unfold range1S at e2
  split at e2
  · obtain ⟨v, rfl, w⟩ := wv.one
    obtain ⟨hz, rfl⟩ := gd_ok e2
    have hz := of_decide_eq_true hz
    exact ⟨_, by rw [w.int], hz.1, hz.2, q2 _ turns_rng⟩
  · cases e2
theorem xi_range2 {tg a b : Expr} {p : Pos} {h : FA} (hg : Gl X "range") (hm : X.mg "range" = none) (hn : [a, b].all notStar = true) (ha : XA X io [a, b] h) : XI X io tg (.Call (.Name "range" p) [a, b] [] pos) (rngF range2S h) := by
  have hn2 : [b].all notStar = true := by
    rw [List.all_cons, Bool.and_eq_true] at hn
    exact hn.2
  refine pi_weak (pi_range2 hg hm ha (star_list hn) (star_list hn2)) fun σ H R w => ?_
  obtain ⟨C, F, fp, τ, ps, τ1, hio, R0, e1, q⟩ := rng_open w
  refine ⟨C, F, fp, τ, ps, τ1, hio, R0, e1, fun F1 fp1 H1 vs R1 s1 w1 => ?_⟩
  obtain ⟨F2, os, ds, sm, wv, e2, q2⟩ := q F1 fp1 H1 vs R1 s1 w1
  unfold range2S at e2
  split at e2
  · obtain ⟨v, u, rfl, w, w2⟩ := wv.two
    obtain ⟨hz, rfl⟩ := gd_ok e2
    rw [Bool.and_eq_true] at hz
    have h1 := of_decide_eq_true hz.1
    have h2 := of_decide_eq_true hz.2
    exact ⟨_, _, by rw [w.int, w2.int], ⟨h1.1, h1.2, h2.1, h2.2⟩, q2 _ turns_rng⟩
  · cases e2
theorem xi_range3 {tg a b d : Expr} {p : Pos} {h : FA} (hg : Gl X "range") (hm : X.mg "range" = none) (hn : [a, b, d].all notStar = true) (ha : XA X io [a, b, d] h) : XI X io tg (.Call (.Name "range" p) [a, b, d] [] pos) (rngF range3S h) := by
  have hn' := hn
  rw [List.all_cons, Bool.and_eq_true] at hn'
  refine pi_weak (pi_range3 hg hm ha (star_cons hn'.1) (star_any hn'.2)) fun σ H R w => ?_
  obtain ⟨C, F, fp, τ, ps, τ1, hio, R0, e1, q⟩ := rng_open w
  refine ⟨C, F, fp, τ, ps, τ1, hio, R0, e1, fun F1 fp1 H1 vs R1 s1 w1 => ?_⟩
  obtain ⟨F2, os, ds, sm, wv, e2, q2⟩ := q F1 fp1 H1 vs R1 s1 w1
  unfold range3S at e2
  split at e2
  · obtain ⟨v, u, t, rfl, w, w2, w3⟩ := wv.three
    obtain ⟨hz, rfl⟩ := gd_ok e2
    rw [Bool.and_eq_true] at hz
    have h1 := of_decide_eq_true hz.1
    exact ⟨_, _, _, _, by rw [w.int, w2.int, w3.int], ⟨h1.1, h1.2.1, hz.2, by omega⟩, q2 _ turns_rngC⟩
  · cases e2
/-- enumerate of a list -/
def enumL : Nat → List D → List D
  | _, [] => []
  | i, d :: ds => .tup [.int i, d] :: enumL (i + 1) ds
theorem enumL_get : ∀ {ds : List D} {k i : Nat} {e : D}, (enumL k ds)[i]? = some e → ∃ d, ds[i]? = some d ∧ e = .tup [.int ((k + i : Nat)), d]
  | [], _, _, _, h => by simp [enumL] at h
  | d :: ds, k, 0, e, h => by
    simp [enumL] at h
    exact ⟨d, rfl, h.symm⟩
  | d :: ds, k, i + 1, e, h => by
    rw [enumL, List.getElem?_cons_succ] at h
    obtain ⟨d', h1, h2⟩ := enumL_get h
    exact ⟨d', by simpa using h1, by rw [h2, show k + 1 + i = k + (i + 1) by omega]⟩
theorem enumL_len : ∀ (ds : List D) (k : Nat), (enumL k ds).length = ds.length
  | [], _ => rfl
  | d :: ds, k => by rw [enumL, List.length_cons, List.length_cons, enumL_len ds]
theorem pair_grow {K : PySem.W.Frag} {F H : Hp} {p : Addr} {d e : D} {x y : V} (s : Same F H) (n : H p = none) (r1 : Rep K F d x) (r2 : Rep K F e y) : Grow K F H (.fz (.tup [d, e])) (.ref p) (upd F p (.tup [x, y])) (upd H p (.tup [x, y])) :=
  Grow.tup s n (Reps.cons r1 (Reps.cons r2 Reps.nil))
theorem turns_enum {K : PySem.W.Frag} {F : Hp} {a : Addr} {vs : List V} {ds : List D} (l : SqL K F a vs) (r : Reps K F ds vs) : Turns K F (Ite K a) (enumL 0 ds) where
  go := fun i H hi s => by
    rw [enumL_len] at hi
    have hv : i < vs.length := by rw [← r.length]; exact hi
    exact walk_enum.goes i H hv (Same.seq s l)
  stop := fun H s => by
    rw [enumL_len, r.length]
    exact walk_enum.stops H (Same.seq s l)
  yld := fun i H x H' d hd s y F1 s1 s2 => by
    obtain ⟨e, he, rfl⟩ := enumL_get hd
    obtain ⟨v, ev, rv⟩ := r.get he
    have hv : i < vs.length := (List.getElem?_eq_some_iff.mp ev).1
    obtain ⟨p, x1, x2, rfl, np, rfl, e1, e2⟩ := walk_enum.yields i H x H' hv (Same.seq s l) y
    cases e1
    have e2 : vs[i]? = some x2 := e2
    rw [ev] at e2
    cases e2
    exact ⟨_, pair_grow s2 np (by rw [Rep, Nat.zero_add]) (rv.mono s1)⟩
/-! enumerate of a tuple -/
theorem meets_enum1 {v : Value} {o : Obj} {G : Heap → Prop} (B : Begins v o G) :
    Meets (Builtin.«enumerate.__new__» ⟨[.type "enumerate", v], []⟩) (fun _ R s => G s.heap ∧
      R (.ok (.ret (.ref (s.heap.push o).objs.size))) { s with heap := (s.heap.push o).push { cls := .type "enumerate", data := .fields #[.none, .bool false, .ref s.heap.objs.size, rawInt 0, .none, .none] } }) :=
  .of_wp fun prog w A R s h => by
    obtain ⟨hp, g, d, tk, os⟩ := s
    obtain ⟨h1, h⟩ := h
    have hsub := sub_enumerate
    have q1 : ∀ {A' : Around} {E Q : Value → Shared → Prop}, Q (.ref hp.objs.size) ⟨hp.push o, g, d, tk, os⟩ → wpAny (model prog w) A' (pyIter v) Q E ⟨hp, g, d, tk, os⟩ := fun q => B.iter prog w _ _ ⟨hp, g, d, tk, os⟩ _ h1 q
    wp_walk using q1
    refine wpAny_stack_any fun st => wpAny_pure ?_
    split
    · rename_i c _ _ _ _ _
      cases (c == Value.type "enumerate") <;> (wp_walk using q1; exact ⟨_, rfl, h⟩)
    · wp_walk using q1
      exact ⟨_, rfl, h⟩
theorem enum1_begins {prog : Program} {w : World} {A : Around} {E : Value → Shared → Prop} {s : Shared} {v : Value} {o : Obj} {G : Heap → Prop} {Q : Value → Shared → Prop} (B : Begins v o G) (h1 : G s.heap)
    (h : ∀ h', IsEnum h' (s.heap.objs.size + 1) s.heap.objs.size 0 .none → h'.get? s.heap.objs.size = some o → (∀ b u, s.heap.get? b = some u → h'.get? b = some u) → Q (.ref (s.heap.objs.size + 1)) { s with heap := h' }) :
    wpAny (model prog w) A (call (.type "enumerate") [v]) Q E s := by
  refine callType_new F.called_enumerate (by decide) (F.typeCall_enumerate_1 _) (F.newCall_enumerate_1 _) (fun obj => F.args_object_init_2 obj _) F.entry_enumerate_new (meets_enum1 B) ⟨h1, ?_⟩
  have hz : (s.heap.push o).objs.size = s.heap.objs.size + 1 := Heap.size_push ..
  have he := Heap.get?_push_size (s.heap.push o) (o := { cls := .type "enumerate", data := .fields #[.none, .bool false, .ref s.heap.objs.size, rawInt 0, .none, .none] }) rfl
  show _ ∧ _
  rw [hz] at he ⊢
  exact ⟨⟨_, he, rfl⟩, h _ he (Heap.get?_push_of_some _ (Heap.get?_push_size _ B.free)) fun b u x => Heap.get?_push_of_some _ (Heap.get?_push_of_some _ x)⟩
def IteT (K : PySem.W.Frag) (a : Addr) : It :=
  ⟨fun i H => ∃ (xs : List V) (x : V), SqT K H a xs ∧ xs[i]? = some x, fun i H v H' => ∃ p x, v = .ref p ∧ H p = none ∧ H' = upd H p (.tup [.int (i : Nat), x]) ∧ ∀ xs, SqT K H a xs → xs[i]? = some x, fun i H => ∃ xs : List V, SqT K H a xs ∧ xs.length = i⟩
theorem turn_enumT {P : Program} {w : World} {K : PySem.W.Frag} {elts : List Expr} {kk : Nat} {tpos : Pos} (a c it : Addr) (hne : c ≠ it) :
    Turn P w K (.Tuple elts kk tpos) (IteT K a) [c, it] c (fun i h => (∃ old, IsEnum h c it ((i : Nat) : Int) old) ∧ h.IsTupleIter it a i) where
  mem := by simp
  obj := fun i h st b hb => by
    obtain ⟨⟨old, he⟩, ⟨o, ho, hc, hd⟩⟩ := st
    have e' : b = c ∨ b = it := by simpa using hb
    rcases e' with z | z
    · rw [z]; exact ⟨_, he, fun v q => nomatch q⟩
    · rw [z]; exact ⟨o, ho, fun v q => by rw [hd] at q; cases q⟩
  keep := fun i h h' st k => let ⟨⟨old, he⟩, hi⟩ := st; ⟨⟨old, k c (by simp) _ he⟩, hi.at fun o q => k it (by simp) o q⟩
  item := by
    intro X hP hw hK hc i pins s σ H E I hf st hg
    subst hP hw hK
    obtain ⟨⟨old, he⟩, hit⟩ := st
    obtain ⟨xs, x, hq, hx⟩ := hg
    obtain ⟨its, rv, p, hz⟩ := I.tuple hq
    obtain ⟨u, hu, ru⟩ := rv.get hx
    have hel : c < s.heap.objs.size := Heap.lt_size he
    have hil : it < s.heap.objs.size := by obtain ⟨_, q, _⟩ := hit; exact Heap.lt_size q
    have hai : a ≠ it := by
      intro z
      obtain ⟨o1, q1, c1, _⟩ := hit
      obtain ⟨o2, q2, c2, _⟩ := p
      rw [z, q1] at q2; cases q2
      rw [c1] at c2
      exact absurd c2 (by simp)
    have hac : c ≠ a := by
      intro z
      obtain ⟨o2, q2, c2, _⟩ := p
      rw [← z] at q2
      have := he.symm.trans q2
      cases this
      exact absurd c2 (by simp)
    have hi : i < its.toArray.size := by
      rw [List.size_toArray, ← rv.length]
      exact (List.getElem?_eq_some_iff.mp hx).1
    have W := GoesN.enumFrom (prog := X.prog) (w := X.w) (A := X.A) (elts := elts) (x1 := kk) (pos := tpos) 0 (Draws.tuple (A := X.A.in1) (I.ok.hd hc) it a hai its.toArray) c hne (by simp [hne, hac]) (by simp)
    refine W.goes i s _ _ hi ⟨⟨old, by rw [Int.zero_add]; exact he⟩, hit, p⟩ fun v h' tk hy st' hk htk => ?_
    obtain ⟨q, t, y, rfl, hnew, hpy, hT⟩ := hy
    obtain ⟨⟨old', he'⟩, hit', _⟩ := st'
    have ey : y = u := by
      have h1 : its.toArray[i]? = some y := hpy
      rw [List.getElem?_toArray, hu] at h1
      cases h1; rfl
    subst ey
    have new : ObjOk X.prog X.w (upd H q (.tup [.int (i : Nat), x])) h' q (.tup [.int (i : Nat), x]) := by
      refine ⟨by show 2 ≤ sizeLine; decide, [.int (0 + (i : Int)) t, y], .cons ⟨t, by rw [Int.zero_add]⟩ (.cons ru .nil), hT⟩
    have I1 := I.turnedNew (ch := [c, it]) (t' := tk) (fun b ob hb z => hk b ob hb z) hf hnew new
    refine ⟨.ref q, _, I1, rfl, ⟨q, x, rfl, I.hok.fresh hnew, rfl, fun ys hy => by rw [I.tuple_inj hy hq]; exact hx⟩, ⟨⟨old', ?_⟩, hit'⟩, fun b hb => ?_⟩
    · have e1 : ((i + 1 : Nat) : Int) = 0 + ((i + 1 : Nat) : Int) := by omega
      rw [e1]; exact he'
    · have hb' : b < s.heap.objs.size := by
        have e' : b = c ∨ b = it := by simpa using hb
        rcases e' with z | z
        · rw [z]; exact hel
        · rw [z]; exact hil
      rw [upd_ne (Nat.ne_of_lt (Nat.lt_of_lt_of_le hb' hnew))]
      exact (hf b hb).1
  done := by
    intro X hP hw hK hc i pins s σ H E I hf st hg
    subst hP hw hK
    obtain ⟨⟨old, he⟩, hit⟩ := st
    obtain ⟨xs, hq, hx⟩ := hg
    obtain ⟨its, rv, p, hz⟩ := I.tuple hq
    have hai : a ≠ it := by
      intro z
      obtain ⟨o1, q1, c1, _⟩ := hit
      obtain ⟨o2, q2, c2, _⟩ := p
      rw [z, q1] at q2; cases q2
      rw [c1] at c2
      exact absurd c2 (by simp)
    have hac : c ≠ a := by
      intro z
      obtain ⟨o2, q2, c2, _⟩ := p
      rw [← z] at q2
      have := he.symm.trans q2
      cases this
      exact absurd c2 (by simp)
    have hi : i = its.toArray.size := by rw [List.size_toArray, ← rv.length]; exact hx.symm
    have W := GoesN.enumFrom (prog := X.prog) (w := X.w) (A := X.A) (elts := elts) (x1 := kk) (pos := tpos) 0 (Draws.tuple (A := X.A.in1) (I.ok.hd hc) it a hai its.toArray) c hne (by simp [hne, hac]) (by simp)
    refine W.stops s (fun s1 => Inv X pins σ H s1) _ (by rw [← hi]; exact ⟨⟨old, by rw [Int.zero_add]; exact he⟩, hit, p⟩) fun h' tk hk _ => ?_
    exact I.turnedL (ch := [c, it]) (t' := tk) (fun b o hb z => hk b o hb z) hf
  self := fun A i s Q E st h => let ⟨⟨_, he⟩, _⟩ := st; wpAny_pyIter_enum he h
def datL (k : List D → List D) : List OV → Res (List D)
  | [.fz (.lst ds)] => .ok (k ds)
  | [.fz (.tup ds)] => .ok (k ds)
  | _ => .bad
theorem turns_zip {K : PySem.W.Frag} {F : Hp} {a b : Addr} {vs ws : List V} {ds es : List D} (l : SqL K F a vs) (l2 : SqL K F b ws) (r : Reps K F ds vs) (r2 : Reps K F es ws) : Turns K F (Itz K a b) (List.zipWith (fun x y => .tup [x, y]) ds es) where
  go := fun i H hi s => (walk_zip (n := min vs.length ws.length) rfl).goes i H (by rw [List.length_zipWith, r.length, r2.length] at hi; exact hi) ⟨Same.seq s l, Same.seq s l2⟩
  stop := fun H s => by
    rw [List.length_zipWith, r.length, r2.length]
    exact (walk_zip rfl).stops H ⟨Same.seq s l, Same.seq s l2⟩
  yld := fun i H x H' d hd s y F1 s1 s2 => by
    rw [List.getElem?_zipWith] at hd
    cases h1 : ds[i]? with
    | none => rw [h1] at hd; simp at hd
    | some d1 =>
      cases h2 : es[i]? with
      | none => rw [h1, h2] at hd; simp at hd
      | some d2 =>
        rw [h1, h2] at hd
        simp at hd
        subst hd
        obtain ⟨v, ev, rv⟩ := r.get h1
        obtain ⟨w, ew, rw2⟩ := r2.get h2
        have hv : i < vs.length := (List.getElem?_eq_some_iff.mp ev).1
        have hw : i < ws.length := (List.getElem?_eq_some_iff.mp ew).1
        obtain ⟨p, x1, x2, rfl, np, rfl, e1, e2⟩ := (walk_zip (n := min vs.length ws.length) rfl).yields i H x H' (by omega) ⟨Same.seq s l, Same.seq s l2⟩ y
        have e1 : vs[i]? = some x1 := e1
        have e2 : ws[i]? = some x2 := e2
        rw [ev] at e1
        rw [ew] at e2
        cases e1
        cases e2
        exact ⟨_, pair_grow s2 np (rv.mono s1) (rw2.mono s1)⟩
theorem turns_enumT {K : PySem.W.Frag} {F : Hp} {a : Addr} {vs : List V} {ds : List D} (l : SqT K F a vs) (r : Reps K F ds vs) : Turns K F (IteT K a) (enumL 0 ds) where
  go := fun i H hi s => by
    rw [enumL_len] at hi
    have hv : i < vs.length := by rw [← r.length]; exact hi
    exact ⟨vs, vs[i], sqt_mono s l, List.getElem?_eq_getElem hv⟩
  stop := fun H s => ⟨vs, sqt_mono s l, by rw [enumL_len, r.length]⟩
  yld := fun i H x H' d hd s y F1 s1 s2 => by
    obtain ⟨e, he, rfl⟩ := enumL_get hd
    obtain ⟨v, ev, rv⟩ := r.get he
    obtain ⟨p, x2, rfl, np, rfl, e2⟩ := y
    have e2 := e2 vs (sqt_mono s l)
    rw [ev] at e2
    cases e2
    exact ⟨_, pair_grow s2 np (by rw [Rep, Nat.zero_add]) (rv.mono s1)⟩
theorem turns_zipT {K : PySem.W.Frag} {F : Hp} {a b : Addr} {vs ws : List V} {ds es : List D} (l : SqT K F a vs) (l2 : SqT K F b ws) (r : Reps K F ds vs) (r2 : Reps K F es ws) : Turns K F (RZ.ItzT K a b) (List.zipWith (fun x y => .tup [x, y]) ds es) where
  go := fun i H hi s => by
    rw [List.length_zipWith, r.length, r2.length] at hi
    have h1 : i < vs.length := by omega
    have h2 : i < ws.length := by omega
    exact ⟨vs, ws, vs[i], ws[i], sqt_mono s l, sqt_mono s l2, List.getElem?_eq_getElem h1, List.getElem?_eq_getElem h2⟩
  stop := fun H s => ⟨vs, ws, sqt_mono s l, sqt_mono s l2, by rw [List.length_zipWith, r.length, r2.length]; omega⟩
  yld := fun i H x H' d hd s y F1 s1 s2 => by
    rw [List.getElem?_zipWith] at hd
    cases h1 : ds[i]? with
    | none => rw [h1] at hd; simp at hd
    | some d1 =>
      cases h2 : es[i]? with
      | none => rw [h1, h2] at hd; simp at hd
      | some d2 =>
        rw [h1, h2] at hd
        simp at hd
        subst hd
        obtain ⟨v, ev, rv⟩ := r.get h1
        obtain ⟨w, ew, rw2⟩ := r2.get h2
        obtain ⟨p, x1, x2, rfl, np, rfl, e1, e2⟩ := y
        have e1 := e1 vs (sqt_mono s l)
        have e2 := e2 ws (sqt_mono s l2)
        rw [ev] at e1
        rw [ew] at e2
        cases e1
        cases e2
        exact ⟨_, pair_grow s2 np (rv.mono s1) (rw2.mono s1)⟩
def iEnumA (K : PySem.W.Frag) (ta : TA) : TI := fun σ H R => ta σ H fun vs H1 => ∃ a xs, vs = [.ref a] ∧ ((SqL K H1 a xs ∧ R (Ite K a) H1) ∨ (SqT K H1 a xs ∧ R (IteT K a) H1))
theorem pi_enumA {e : Expr} {ta : TA} {p tpos : Pos} {elts : List Expr} {kk : Nat} (hg : Gl X "enumerate") (hm : X.mg "enumerate" = none) (ha : PA X [e] ta) (hs : starEach [e] X.env = [(false, eval e X.env)]) :
    PI X (.Tuple elts kk tpos) (.Call (.Name "enumerate" p) [e] [] pos) (iEnumA X.K ta) := by
  refine ⟨fun pins s σ H R I h => ?_⟩
  refine Call_ (ld_blt I hg hm boot_enumerate (PyProof.Rows.callWith_type1 (thn (ha.run pos pins s σ H _ I h) fun us s1 ⟨vs, H1, I1, r1, q1⟩ => ?_) hs rfl))
  obtain ⟨a, xs, rfl, q⟩ := q1
  obtain ⟨u, rfl, ru⟩ := vals1 r1
  cases ru
  have hle : ∀ b ∈ [s1.heap.objs.size + 1, s1.heap.objs.size], s1.heap.objs.size ≤ b := fun b hb => by
    have e' : b = s1.heap.objs.size + 1 ∨ b = s1.heap.objs.size := by simpa using hb
    rcases e' with z | z
    · rw [z]; exact Nat.le_add_right _ _
    · rw [z]; exact Nat.le_refl _
  rcases q with ⟨l, q⟩ | ⟨l, q⟩
  · obtain ⟨its, rv, p', hz⟩ := I1.list l
    refine call_enumerate_list p'.isList fun h' he hit hsz hk => wpAny_pyIter_enum he ?_
    exact ⟨s1.heap.objs.size + 1, [s1.heap.objs.size + 1, s1.heap.objs.size], _, _, H1, rfl, I1.kept (t' := s1.toks) hk, turn_enum a _ _, ⟨⟨.none, he⟩, hit, Nat.succ_ne_self _⟩, fun b hb => I1.fpOk (hle b hb) (I1.hok.fresh (hle b hb)), q⟩
  · obtain ⟨its, rv, p', hz⟩ := I1.tuple l
    refine enum1_begins (begins_tuple a its.toArray) p' fun h' he hit hk => wpAny_pyIter_enum he ?_
    exact ⟨s1.heap.objs.size + 1, [s1.heap.objs.size + 1, s1.heap.objs.size], _, _, H1, rfl, I1.kept (t' := s1.toks) hk, turn_enumT a _ _ (Nat.succ_ne_self _), ⟨⟨.none, he⟩, ⟨_, hit, rfl, rfl⟩⟩, fun b hb => I1.fpOk (hle b hb) (I1.hok.fresh (hle b hb)), q⟩
theorem xi_enum {a : Expr} {p tpos : Pos} {elts : List Expr} {kk : Nat} {h : FA} (hg : Gl X "enumerate") (hm : X.mg "enumerate" = none) (hn : [a].all notStar = true) (ha : XA X io [a] h) :
    XI X io (.Tuple elts kk tpos) (.Call (.Name "enumerate" p) [a] [] pos) (rngF (datL (enumL 0)) h) := by
  refine pi_weak (pi_enumA hg hm ha (star_list hn)) fun σ H R w => ?_
  obtain ⟨C, F, fp, τ, ps, τ1, hio, R0, e1, q⟩ := rng_open w
  refine ⟨C, F, fp, τ, ps, τ1, hio, R0, e1, fun F1 fp1 H1 vs R1 s1 w1 => ?_⟩
  obtain ⟨F2, os, ds, sm, wv, e2, q2⟩ := q F1 fp1 H1 vs R1 s1 w1
  unfold datL at e2
  split at e2
  · obtain ⟨v, rfl, w⟩ := wv.one
    cases e2
    have w := w.fz
    rw [Rep] at w
    obtain ⟨x, ws, rfl, l, rr⟩ := w
    exact ⟨x, ws, rfl, .inl ⟨(l.mono sm).sql, q2 _ (turns_enum l.sql rr)⟩⟩
  · obtain ⟨v, rfl, w⟩ := wv.one
    cases e2
    have w := w.fz
    rw [Rep] at w
    obtain ⟨x, ws, rfl, l, rr⟩ := w
    exact ⟨x, ws, rfl, .inr ⟨sqt_mono sm l, q2 _ (turns_enumT l rr)⟩⟩
  · cases e2
def zip2S : List OV → Res (List D)
  | [.fz (.lst ds), .fz (.lst es)] => .ok (List.zipWith (fun x y => .tup [x, y]) ds es)
  | [.fz (.tup ds), .fz (.tup es)] => .ok (List.zipWith (fun x y => .tup [x, y]) ds es)
  | _ => .bad
theorem xi_zip {a b : Expr} {p tpos : Pos} {elts : List Expr} {kk : Nat} {h : FA} (hg : Gl X "zip") (hm : X.mg "zip" = none) (hn : [a, b].all notStar = true) (ha : XA X io [a, b] h) :
    XI X io (.Tuple elts kk tpos) (.Call (.Name "zip" p) [a, b] [] pos) (rngF zip2S h) := by
  have hn' := hn
  rw [List.all_cons, Bool.and_eq_true] at hn'
  refine pi_weak (RZ.pi_zipA hg hm ha (star_cons hn'.1) (star_any hn'.2)) fun σ H R w => ?_
  obtain ⟨C, F, fp, τ, ps, τ1, hio, R0, e1, q⟩ := rng_open w
  refine ⟨C, F, fp, τ, ps, τ1, hio, R0, e1, fun F1 fp1 H1 vs R1 s1 w1 => ?_⟩
  obtain ⟨F2, os, ds, sm, wv, e2, q2⟩ := q F1 fp1 H1 vs R1 s1 w1
  unfold zip2S at e2
  split at e2
  · obtain ⟨v, u, rfl, w, w2⟩ := wv.two
    cases e2
    have w := w.fz
    have w2 := w2.fz
    rw [Rep] at w w2
    obtain ⟨x, ws, rfl, l, rr⟩ := w
    obtain ⟨y, us, rfl, l2, rr2⟩ := w2
    exact ⟨x, y, ws, us, rfl, .inl ⟨(l.mono sm).sql, (l2.mono sm).sql, q2 _ (turns_zip l.sql l2.sql rr rr2)⟩⟩
  · obtain ⟨v, u, rfl, w, w2⟩ := wv.two
    cases e2
    have w := w.fz
    have w2 := w2.fz
    rw [Rep] at w w2
    obtain ⟨x, ws, rfl, l, rr⟩ := w
    obtain ⟨y, us, rfl, l2, rr2⟩ := w2
    exact ⟨x, y, ws, us, rfl, .inr ⟨sqt_mono sm l, sqt_mono sm l2, q2 _ (turns_zipT l l2 rr rr2)⟩⟩
  · cases e2
end
end Pf

/-! Pf7: comprehensions. -/
namespace Pf
open PySem PySem.Spec PyProof.Rows L2

def Fx.pendTo (C : Fx) (l : List (OV × V × List Addr)) : Fx := { C with pend := l }
section
variable {K : PySem.W.Frag} {C : Fx} {F : Hp} {fp : Nat → List Addr} {τ : T} {σ : L2.St} {H : Hp} {r : OV} {v : V} {as : List Addr} {l : List (OV × V × List Addr)}
theorem Rel.repend {l' : List (OV × V × List Addr)} (R : Rel K (C.pendTo l) F fp τ σ H) (h : ∀ t ∈ l', Own K F H t.1 t.2.1 t.2.2 ∧ ∀ a ∈ t.2.2, F a = none ∧ H a ≠ none ∧ ∀ i, a ∉ fp i) : Rel K (C.pendTo l') F fp τ σ H :=
  ⟨R.sub, R.old, R.frame, R.new, R.len, R.slot, R.apart, R.own, R.lay, R.stay, R.lent, R.ioc, h⟩
theorem Rel.addPend (R : Rel K (C.pendTo l) F fp τ σ H) (t : Tmp K (C.pendTo l) F fp H r v as) : Rel K (C.pendTo ((r, v, as) :: l)) F fp τ σ H :=
  R.repend fun p hp => by
    rcases List.mem_cons.mp hp with rfl | hp
    · refine ⟨t.own, fun a ha => ⟨(t.new a ha).1, ?_, t.apart a ha⟩⟩
      obtain ⟨vs, e⟩ := t.own.there a ha
      rw [e]; simp
    · exact R.pend p hp
theorem Rel.dropPend {t : OV × V × List Addr} (R : Rel K (C.pendTo (t :: l)) F fp τ σ H) : Rel K (C.pendTo l) F fp τ σ H :=
  R.repend fun p hp => R.pend p (List.mem_cons_of_mem _ hp)
theorem Rel.unPend (R : Rel K (C.pendTo ((r, v, as) :: l)) F fp τ σ H) (hn : ∀ a ∈ as, C.H0 a = none) (hd : ∀ a ∈ as, ∀ t ∈ l, a ∉ t.2.2) : Tmp K (C.pendTo l) F fp H r v as := by
  obtain ⟨w, q⟩ := R.pend (r, v, as) List.mem_cons_self
  exact ⟨w, fun a ha => (q a ha).2.2, fun a ha => ⟨(q a ha).1, hn a ha⟩, hd⟩
theorem Owns.snoc {os : List OV} {vs : List V} {bs : List Addr} : ∀ {os : List OV} {vs : List V} {bs : List Addr}, Owns K F H os vs bs → Own K F H r v as → (∀ a ∈ bs, a ∉ as) → Owns K F H (os ++ [r]) (vs ++ [v]) (bs ++ as)
  | [], vs, bs, h, w, n => by
    rw [Owns] at h
    obtain ⟨rfl, rfl⟩ := h
    rw [List.nil_append, List.nil_append, List.nil_append, Owns]
    refine ⟨v, [], as, [], rfl, by simp, w, ?_, fun _ _ z => (nomatch z)⟩
    rw [Owns]; exact ⟨rfl, rfl⟩
  | x :: xs, vs, bs, h, w, n => by
    rw [Owns] at h
    obtain ⟨u, us, b1, b2, rfl, rfl, q, qs, m⟩ := h
    have ih := Owns.snoc (os := xs) (vs := us) (bs := b2) qs w fun a ha => n a (List.mem_append_right _ ha)
    rw [List.cons_append, List.cons_append, Owns]
    refine ⟨u, us ++ [v], b1, b2 ++ as, rfl, by rw [List.append_assoc], q, ih, fun a ha z => ?_⟩
    rcases List.mem_append.mp z with z | z
    · exact m a ha z
    · exact n a (List.mem_append_left _ ha) z
/-- the list that waits takes one more item -/
theorem Rel.pendPush {xs : List OV} {A : Addr} {bs : List Addr} (R : Rel K (C.pendTo ((.ls xs, .ref A, A :: bs) :: l)) F fp τ σ H) (t : Tmp K (C.pendTo ((.ls xs, .ref A, A :: bs) :: l)) F fp H r v as)
    (hA : ∀ p ∈ l, A ∉ p.2.2) (hn : C.H0 A = none) : ∃ vs, H A = some (.lst vs) ∧ vs.length = xs.length ∧ Rel K (C.pendTo ((.ls (xs ++ [r]), .ref A, A :: (bs ++ as)) :: l)) F fp τ σ (upd H A (.lst (vs ++ [v]))) := by
  obtain ⟨w, q⟩ := R.pend (.ls xs, .ref A, A :: bs) List.mem_cons_self
  have w' := w
  rw [Own] at w'
  obtain ⟨A', vs, bs', e1, e2, hH, nA, rs⟩ := w'
  cases e1
  cases e2
  have qA := q A List.mem_cons_self
  have tA : A ∉ as := fun z => t.free A z _ List.mem_cons_self List.mem_cons_self
  have kp : ∀ b u, b ≠ A → H b = some u → upd H A (.lst (vs ++ [v])) b = some u := fun b u hb h => by rw [upd_ne hb]; exact h
  have bsA : ∀ b ∈ bs, b ≠ A := fun b hb z => nA (by rw [← z]; exact hb)
  refine ⟨vs, hH, rs.length.symm, same_updF R.sub qA.1, R.old, fun b o h1 h2 => ?_, R.new, R.len, fun j o e => ?_, R.apart, R.own, fun j b hb => ?_, fun b hb => ?_, R.lent, R.ioc, fun p hp => ?_⟩
  · refine kp b o (fun z => ?_) (R.frame b o h1 h2)
    subst z
    have h1 : C.H0 b = some o := h1
    rw [hn] at h1; cases h1
  · obtain ⟨u, e3, g⟩ := R.slot j o e
    exact ⟨u, e3, g.keep (Same.refl _) fun b hb x hx => kp b x (fun z => qA.2.2 j (by rw [← z]; exact hb)) hx⟩
  · by_cases hb' : b = A
    · rw [hb', upd_same]; simp
    · rw [upd_ne hb']; exact R.lay j b hb
  · by_cases hb' : b = A
    · subst hb'; rw [upd_same] at hb; cases hb
    · rw [upd_ne hb'] at hb; exact R.stay b hb
  · rcases List.mem_cons.mp hp with rfl | hp
    · have asA : ∀ b ∈ as, b ≠ A := fun b hb z => tA (by rw [← z]; exact hb)
      have w2 : Owns K F H (xs ++ [r]) (vs ++ [v]) (bs ++ as) := Owns.snoc (os := xs) (vs := vs) (bs := bs) rs t.own fun a ha z => t.free a z _ List.mem_cons_self (List.mem_cons_of_mem _ ha)
      have hmem : ∀ b ∈ bs ++ as, b ≠ A := fun b hb => (List.mem_append.mp hb).elim (bsA b) (asA b)
      refine ⟨?_, fun b hb => ?_⟩
      · rw [Own]
        exact ⟨A, vs ++ [v], bs ++ as, rfl, rfl, upd_same, fun z => hmem A z rfl, w2.keep (Same.refl _) fun b hb u hu => kp b u (hmem b hb) hu⟩
      · rcases List.mem_cons.mp hb with z | hb
        · subst z
          exact ⟨qA.1, by rw [upd_same]; simp, qA.2.2⟩
        · rw [upd_ne (hmem b hb)]
          rcases List.mem_append.mp hb with hb | hb
          · exact q b (List.mem_cons_of_mem _ hb)
          · obtain ⟨ws, e⟩ := t.own.there b hb
            exact ⟨(t.new b hb).1, by rw [e]; simp, t.apart b hb⟩
    · obtain ⟨g, m⟩ := R.pend p (List.mem_cons_of_mem _ hp)
      have hpA : ∀ b ∈ p.2.2, b ≠ A := fun b hb z => hA p hp (by rw [← z]; exact hb)
      exact ⟨g.keep (Same.refl _) fun b hb u hu => kp b u (hpA b hb) hu, fun b hb => ⟨(m b hb).1, by rw [upd_ne (hpA b hb)]; exact (m b hb).2.1, (m b hb).2.2⟩⟩
end

/-! ### the block's own slots -/
def wipeT (τ : T) : List Nat → T
  | [] => τ
  | v :: vs => (wipeT τ vs).set v none
theorem wipeT_len (τ : T) : ∀ vs, (wipeT τ vs).length = τ.length
  | [] => rfl
  | v :: vs => by unfold wipeT; rw [List.length_set, wipeT_len τ vs]
theorem wipeT_at {τ : T} {i : Nat} : ∀ {vs : List Nat}, slotAt (wipeT τ vs) i = if i ∈ vs then none else slotAt τ i
  | [] => by simp [wipeT]
  | v :: vs => by
    unfold wipeT
    by_cases h : v = i
    · subst h
      by_cases hl : v < (wipeT τ vs).length
      · rw [slotAt_set_same hl]; simp
      · have : slotAt ((wipeT τ vs).set v none) v = none := by
          unfold slotAt
          rw [List.getElem?_eq_none (by rw [List.length_set]; omega)]; rfl
        rw [this]; simp
    · rw [slotAt_set_ne h, wipeT_at]
      by_cases hi : i ∈ vs
      · rw [if_pos hi, if_pos (List.mem_cons_of_mem _ hi)]
      · rw [if_neg hi, if_neg (by simp [hi]; exact fun z => h z.symm)]
/-- the slots vs as they were in τ0 -/
def backT (τ τ0 : T) : List Nat → T
  | [] => τ
  | v :: vs => (backT τ τ0 vs).set v (slotAt τ0 v)
theorem backT_len (τ τ0 : T) : ∀ vs, (backT τ τ0 vs).length = τ.length
  | [] => rfl
  | v :: vs => by unfold backT; rw [List.length_set, backT_len τ τ0 vs]
theorem backT_at {τ τ0 : T} {i : Nat} (hl : τ.length = τ0.length) : ∀ {vs : List Nat}, slotAt (backT τ τ0 vs) i = if i ∈ vs then slotAt τ0 i else slotAt τ i
  | [] => by simp [backT]
  | v :: vs => by
    unfold backT
    by_cases h : v = i
    · subst h
      by_cases hv : v < (backT τ τ0 vs).length
      · rw [slotAt_set_same hv]; simp
      · have h1 : slotAt ((backT τ τ0 vs).set v (slotAt τ0 v)) v = none := by
          unfold slotAt
          rw [List.getElem?_eq_none (by rw [List.length_set]; omega)]; rfl
        have h2 : slotAt τ0 v = none := by
          unfold slotAt
          rw [List.getElem?_eq_none (by rw [← hl, ← backT_len τ τ0 vs]; omega)]; rfl
        rw [h1]; simp [h2]
    · rw [slotAt_set_ne h, backT_at hl]
      by_cases hi : i ∈ vs
      · rw [if_pos hi, if_pos (List.mem_cons_of_mem _ hi)]
      · rw [if_neg hi, if_neg (by simp [hi]; exact fun z => h z.symm)]
def noOwn (τ : T) (i : Nat) : Bool := match slotAt τ i with
  | some (.ls _) => false
  | _ => true
theorem wipe_at {σ : L2.St} {i : Nat} : ∀ {vs : List Nat}, i ∉ vs → (wipe σ vs)[i]? = σ[i]?
  | [], _ => rfl
  | v :: vs, h => by
    unfold wipe
    rw [List.getElem?_set_ne fun z => h (by simp [z]), wipe_at fun z => h (List.mem_cons_of_mem _ z)]
theorem wipe_in {σ : L2.St} {i : Nat} : ∀ {vs : List Nat}, i ∈ vs → i < σ.length → (wipe σ vs)[i]? = some none
  | v :: vs, h, hl => by
    unfold wipe
    by_cases e : v = i
    · subst e
      exact List.getElem?_set_self (by rw [wipe_length]; exact hl)
    · rw [List.getElem?_set_ne e]
      rcases List.mem_cons.mp h with z | z
      · exact absurd z.symm e
      · exact wipe_in z hl
theorem wipe_eq {σ σ' : L2.St} {vs : List Nat} (hl : σ'.length = σ.length) (h : ∀ j, j ∉ vs → σ'[j]? = σ[j]?) : wipe σ' vs = wipe σ vs := by
  apply List.ext_getElem?
  intro i
  by_cases hi : i ∈ vs
  · by_cases hs : i < σ.length
    · rw [wipe_in hi hs, wipe_in hi (by rw [hl]; exact hs)]
    · rw [List.getElem?_eq_none (by rw [wipe_length]; omega), List.getElem?_eq_none (by rw [wipe_length]; omega)]
  · rw [wipe_at hi, wipe_at hi, h i hi]
section
variable {K : PySem.W.Frag} {C : Fx} {F : Hp} {fp : Nat → List Addr} {τ : T} {σ : L2.St} {H : Hp}
theorem Rel.wipe {vs : List Nat} (R : Rel K C F fp τ σ H) (hv : ∀ i ∈ vs, i ∉ C.ios.map (·.1)) : Rel K C F fp (wipeT τ vs) (L2.wipe σ vs) H := by
  refine ⟨R.sub, R.old, R.frame, R.new, by rw [wipeT_len, wipe_length]; exact R.len, fun i o e => ?_, R.apart, R.own, R.lay, R.stay, fun p hp => ?_, R.ioc, R.pend⟩
  · rw [wipeT_at] at e
    by_cases hi : i ∈ vs
    · rw [if_pos hi] at e; cases e
    · rw [if_neg hi] at e
      rw [wipe_at hi]
      exact R.slot i o e
  · rw [wipe_at fun z => hv _ z (List.mem_map_of_mem hp)]
    exact R.lent p hp
theorem Rel.unwipe {vs : List Nat} {τ0 : T} {F0 : Hp} {fp0 : Nat → List Addr} {H0 : Hp} {C0 : Fx} (R : Rel K C F fp τ (L2.wipe σ vs) H) (R0 : Rel K C0 F0 fp0 τ0 σ H0) (s : Same F0 F) (hn : vs.all (noOwn τ0) = true) (hv : ∀ i ∈ vs, i ∉ C.ios.map (·.1)) :
    ∃ fp', Rel K C F fp' (backT τ τ0 vs) σ H ∧ ∀ i a, a ∈ fp' i → a ∈ fp i := by
  have hl : τ.length = τ0.length := by rw [R.len, wipe_length, R0.len]
  have sub : ∀ i a, a ∈ (if i ∈ vs then [] else fp i) → i ∉ vs ∧ a ∈ fp i := fun i a h => by
    by_cases hi : i ∈ vs
    · rw [if_pos hi] at h; exact absurd h (by simp)
    · rw [if_neg hi] at h; exact ⟨hi, h⟩
  refine ⟨fun i => if i ∈ vs then [] else fp i, ⟨R.sub, R.old, R.frame, R.new, by rw [backT_len, hl]; exact R0.len, fun i o e => ?_, fun i j a h1 h2 => R.apart i j a (sub i a h1).2 (sub j a h2).2, fun i a h => R.own i a (sub i a h).2, fun i a h => R.lay i a (sub i a h).2, R.stay, fun p hp => ?_, R.ioc, fun p hp => ?_⟩, fun i a h => (sub i a h).2⟩
  · rw [backT_at hl] at e
    by_cases hi : i ∈ vs
    · rw [if_pos hi] at e
      obtain ⟨v, e1, w⟩ := R0.slot i o e
      have ho := List.all_eq_true.mp hn i hi
      unfold noOwn at ho
      rw [e] at ho
      cases o with
      | ls xs => exact absurd ho (by simp)
      | fz d =>
        rw [Own.fz_iff] at w
        exact ⟨v, e1, by rw [if_pos hi]; exact Own.of_rep (w.2.mono s)⟩
    · rw [if_neg hi] at e
      obtain ⟨v, e1, w⟩ := R.slot i o e
      rw [wipe_at hi] at e1
      exact ⟨v, e1, by rw [if_neg hi]; exact w⟩
  · have h1 := R.lent p hp
    rw [wipe_at fun z => hv _ z (List.mem_map_of_mem hp)] at h1
    exact h1
  · obtain ⟨g, m⟩ := R.pend p hp
    exact ⟨g, fun a ha => ⟨(m a ha).1, (m a ha).2.1, fun i z => (m a ha).2.2 i (sub i a z).2⟩⟩
end

/-! ### [e for t in it if c] -/
/-- one clause's turns -/
def compL (io vs : List Nat) (own : Bool) (g : FG) (c : T → Res (Bool × T)) (f : FP) : List D → List OV → T → Res (List OV × T)
  | [], acc, τ => .ok (acc, τ)
  | d :: ds, acc, τ => (g d (wipeT τ vs)).bind fun τ1 => (c τ1).bind fun (b, τ2) => if b = true then (f τ2).bind fun (p, τ3) => (take io own p τ3).bind fun (r, τ4) =>
      if acc.length < sizeLine then compL io vs own g c f ds (acc ++ [r]) τ4 else .bad
    else compL io vs own g c f ds acc τ2
def compF (io vs : List Nat) (own : Bool) (h : FI) (g : FG) (c : T → Res (Bool × T)) (f : FP) : FP := fun τ => (h τ).bind fun (ds, τ1) => if vs.all (noOwn τ1) && vs.all (fun i => decide (i ∉ io)) then
    (compL io vs own g c f ds [] τ1).bind fun (acc, τ2) => .ok (.val (.ls acc), backT (wipeT τ2 vs) τ1 vs)
  else .bad
def XTs (X : Cx) (io : List Nat) (es : List Expr) (c : T → Res (Bool × T)) : Prop := PTs X es (rdT X.K io c)
def yesT : T → Res (Bool × T) := fun τ => .ok (true, τ)
section
variable {X : Cx} {io : List Nat} {pos : Pos} {f c : FP}
theorem pts_weak {es : List Expr} {t t' : TT} (h : PTs X es t) (w : ∀ σ H Q, t' σ H Q → t σ H Q) : PTs X es t' := ⟨fun pins s σ H Q I q => h.run pins s σ H Q I (w σ H Q q)⟩
theorem xts_nil : XTs X io [] yesT := pts_weak pts_nil fun σ H Q ⟨C, F, fp, τ, b, τ', hio, R, e, q⟩ => by
  cases e
  exact q F fp H R (Same.refl _)
theorem xts_one {e : Expr} {c : T → Res (Bool × T)} (h : XT X io e c) : XTs X io [e] c := pts_one h
theorem comp_open {h : FI} {g : FG} {c : T → Res (Bool × T)} {own : Bool} {vs vt : List Nat} (ht : ∀ i ∈ vt, i ∈ vs) {σ : L2.St} {H : Hp} {Q : VK} (hh : rdP X.K io (compF io vs own h g c f) σ H Q) :
    tLc (rdI X.K io h) (rdG X.K io vt g) (rdT X.K io c) (rdP X.K io f) vs σ H Q := by
  obtain ⟨C, F, fp, τ, p, τ', hio, R, e, q⟩ := hh
  obtain ⟨⟨ds, τ1⟩, e1, e⟩ := Res.bind_ok e
  dsimp only at e
  by_cases hz : (vs.all (noOwn τ1) && vs.all (fun i => decide (i ∉ io))) = true
  · rw [if_pos hz] at e
    rw [Bool.and_eq_true] at hz
    have hvio : ∀ i ∈ vs, i ∉ C.ios.map (·.1) := fun i hi => by rw [hio]; exact of_decide_eq_true (List.all_eq_true.mp hz.2 i hi)
    obtain ⟨⟨accF, τ2⟩, e2, e⟩ := Res.bind_ok e
    cases e
    refine ⟨C, F, fp, τ, ds, τ1, hio, R, e1, fun F1 fp1 H1 J R1 s1 tn A nA => ?_⟩
    have hA0 : C.H0 A = none := R1.stay A nA
    have gA := Grow.lst (K := X.K) (ds := []) (vs := []) R1.sub nA Reps.nil
    obtain ⟨RA, as, tA⟩ := gA.rel R1
    have ea : as = [A] := by
      have w := tA.own
      rw [List.map_nil, Own] at w
      obtain ⟨a', vs', bs', z1, z2, z3, z4, z5⟩ := w
      cases z1
      rw [Owns] at z5
      rw [z2, z5.2]
    subst ea
    have RP := (Rel.addPend (C := C) (l := C.pend) RA tA).wipe hvio
    refine ⟨fun i m H => m = ds.length - i ∧ i ≤ ds.length ∧ ∃ acc bs F2 fp2 τ', Rel X.K (C.pendTo ((.ls acc, .ref A, A :: bs) :: C.pend)) F2 fp2 (wipeT τ' vs) (L2.wipe σ vs) H ∧ Same F1 F2 ∧ (∀ a ∈ A :: bs, C.H0 a = none ∧ ∀ t ∈ C.pend, a ∉ t.2.2) ∧ compL io vs own g c f (ds.drop i) acc τ' = .ok (accF, τ2),
      ⟨ds.length, rfl, Nat.zero_le _, [], [], F1, fp1, τ1, RP, Same.refl _, fun a ha => ⟨(tA.new a ha).2, fun t ht => tA.free a ha t ht⟩, e2⟩, ?_⟩
    rintro i m H2 ⟨rfl, hi2, acc, bs, F2, fp2, τ', R2, s2, hb, e3⟩
    by_cases hlt : i < ds.length
    · rw [drop_at hlt, compL] at e3
      obtain ⟨τ3, e4, e5⟩ := Res.bind_ok e3
      obtain ⟨⟨b, τ4⟩, e6, e7⟩ := Res.bind_ok e5
      dsimp only at e7
      refine .inr ⟨tn.go i H2 hlt (s2.trans R2.sub), fun H => ∃ acc bs F2 fp2 τ', Rel X.K (C.pendTo ((.ls acc, .ref A, A :: bs) :: C.pend)) F2 fp2 (wipeT τ' vs) (L2.wipe σ vs) H ∧ Same F1 F2 ∧ (∀ a ∈ A :: bs, C.H0 a = none ∧ ∀ t ∈ C.pend, a ∉ t.2.2) ∧ compL io vs own g c f (ds.drop (i + 1)) acc τ' = .ok (accF, τ2),
        fun H' w => ⟨ds.length - (i + 1), by omega, rfl, hlt, w⟩, fun x H3 y => ?_⟩
      obtain ⟨F3, gr⟩ := tn.yld i H2 x H3 ds[i] (List.getElem?_eq_getElem hlt) (s2.trans R2.sub) y F2 s2 R2.sub
      obtain ⟨R3, as, tm⟩ := gr.rel R2
      have rx := tm.own
      rw [Own.fz_iff] at rx
      refine ⟨C.pendTo ((.ls acc, .ref A, A :: bs) :: C.pend), F3, fp2, wipeT τ' vs, ds[i], τ3, hio, R3, rx.2, e4, fun F4 fp4 σ4 R4 s4 n4 => ?_⟩
      have hw : L2.wipe σ4 vs = L2.wipe σ vs := wipe_eq (n4.1.trans (wipe_length σ vs)) fun j hj => (n4.2 j fun z => hj (ht j z)).trans (wipe_at hj)
      refine ⟨hw, C.pendTo ((.ls acc, .ref A, A :: bs) :: C.pend), F4, fp4, τ3, b, τ4, hio, R4, e6, fun F5 fp5 H5 R5 s5 => ?_⟩
      have s15 : Same F1 F5 := ((s2.trans gr.frozen).trans s4).trans s5
      cases b with
      | false =>
        simp only [Bool.false_eq_true, if_false] at e7 ⊢
        have R6 := R5.wipe hvio
        rw [hw] at R6
        exact ⟨acc, bs, F5, fp5, τ4, R6, s15, hb, e7⟩
      | true =>
        simp only [if_true] at e7 ⊢
        obtain ⟨⟨p, τ5⟩, e8, e9⟩ := Res.bind_ok e7
        obtain ⟨⟨r, τ6⟩, e10, e11⟩ := Res.bind_ok e9
        dsimp only at e11
        by_cases hz2 : acc.length < sizeLine
        · rw [if_pos hz2] at e11
          refine ⟨C.pendTo ((.ls acc, .ref A, A :: bs) :: C.pend), F5, fp5, τ4, p, τ5, hio, R5, e8, fun F6 fp6 H6 v R6 s6 w6 => ?_⟩
          obtain ⟨F7, fp7, as7, R7, s7, t7⟩ := Rel.take (C := C.pendTo ((.ls acc, .ref A, A :: bs) :: C.pend)) hio R6 w6 e10
          obtain ⟨ws, hH, hl, R8⟩ := Rel.pendPush R7 t7 (fun p hp => (hb A List.mem_cons_self).2 p hp) hA0
          have R9 := R8.wipe hvio
          rw [hw] at R9
          refine ⟨ws, hH, by rw [hl]; exact hz2, acc ++ [r], bs ++ as7, F7, fp7, τ6, R9, (s15.trans s6).trans s7, fun a ha => ?_, e11⟩
          rcases List.mem_cons.mp ha with z | ha
          · exact hb a (by rw [z]; exact List.mem_cons_self)
          · rcases List.mem_append.mp ha with ha | ha
            · exact hb a (List.mem_cons_of_mem _ ha)
            · exact ⟨(t7.new a ha).2, fun t ht2 => t7.free a ha t (List.mem_cons_of_mem _ ht2)⟩
        · rw [if_neg hz2] at e11; cases e11
    · have ei : i = ds.length := by omega
      subst ei
      rw [List.drop_length] at e3
      cases e3
      obtain ⟨fp3, R3, hfp⟩ := R2.unwipe R1 s2 hz.1 hvio
      have tt := Rel.unPend R3 (fun a ha => (hb a ha).1) fun a ha t ht => (hb a ha).2 t ht
      exact .inl ⟨tn.stop H2 (s2.trans R2.sub), q F2 fp3 H2 _ R3.dropPend (s1.trans s2) ⟨_, tt⟩⟩
  · rw [if_neg hz] at e; cases e
end
end Pf

/-! Pf8: a def's body as a function of its arguments' values; the call. Parameters ls are lent: their values may be lists that are changed, or only read, and they come back. -/
namespace Pf
open PySem PySem.Spec PyProof.Rows L2

/-! ### arguments: data, and some that may be lent -/
structure ArgsR (K : PySem.W.Frag) (F H : Hp) (as : Nat → List Addr) (ls : List Nat) (os : List OV) (vs : List V) : Prop where
  length : os.length = vs.length
  slot : ∀ i o, os[i]? = some o → ∃ v, vs[i]? = some v ∧ Own K F H o v (as i)
  out : ∀ i, i ∉ ls → as i = []
  apart : ∀ i j a, a ∈ as i → a ∈ as j → i = j
  far : ∀ i, os.length ≤ i → as i = []
section
variable {K : PySem.W.Frag} {F H : Hp} {as : Nat → List Addr}
theorem ArgsR.there {ls : List Nat} {os : List OV} {vs : List V} (h : ArgsR K F H as ls os vs) (i : Nat) (a : Addr) (ha : a ∈ as i) : H a ≠ none := by
  by_cases hi : i < os.length
  · obtain ⟨v, _, q⟩ := h.slot i os[i] (List.getElem?_eq_getElem hi)
    obtain ⟨us, e⟩ := q.there a ha
    rw [e]; simp
  · rw [h.far i (by omega)] at ha
    exact absurd ha (by simp)
end

/-! ### a def's promise -/
/-- what a def has changed behind it: bs the answer's own addresses, cs the lent ones' -/
structure Post (K : PySem.W.Frag) (ls : List Nat) (F H : Hp) (as : Nat → List Addr) (vs : List V) (r : OV) (os : List OV) (F' H' : Hp) (v : V) (bs : List Addr) (cs : Nat → List Addr) : Prop where
  sub : Same F' H'
  old : Same F F'
  frame : ∀ a u, H a = some u → (∀ i, a ∉ as i) → H' a = some u
  new : ∀ a u, F' a = some u → F a ≠ none ∨ H a = none
  stay : ∀ a, H' a = none → H a = none
  ans : Own K F' H' r v bs
  ansn : ∀ a ∈ bs, F' a = none ∧ H a = none ∧ ∀ i, a ∉ cs i
  lent : ∀ (n j : Nat) (o : OV) (w : V), ls[n]? = some j → os[n]? = some o → vs[j]? = some w → Own K F' H' o w (cs j)
  lentn : ∀ i, ∀ a ∈ cs i, F' a = none ∧ (H a = none ∨ a ∈ as i)
  apart : ∀ i j a, a ∈ cs i → a ∈ cs j → i = j
  out : ∀ i, i ∉ ls → cs i = []
  lay : ∀ i, ∀ a ∈ cs i, H' a ≠ none
abbrev FV := List OV → Res (OV × List OV)
def spP (K : PySem.W.Frag) (n : Nat) (ls : List Nat) (f : FV) : Sp := fun vs H Q _ => ∃ F os as r os', Same F H ∧ (∀ i, ∀ a ∈ as i, F a = none) ∧ ArgsR K F H as ls os vs ∧ os.length = n ∧ f os = .ok (r, os') ∧
  ∀ F' H' v bs cs, Post K ls F H as vs r os' F' H' v bs cs → Q v H'
def lentAt (τ : T) : List Nat → Res (List OV)
  | [] => .ok []
  | j :: ls => (Res.of (slotAt τ j)).bind fun o => (lentAt τ ls).bind fun os => .ok (o :: os)
/-- a body as a function: m the slots, n of them the parameters -/
def runF (m n : Nat) (ls : List Nat) (g : FS) : FV := fun os => if os.length = n ∧ ls.all (fun j => decide (j < n)) = true then (g (os.map some ++ List.replicate (m - n) none)).bind fun (fl, τ) => match fl with
    | .rt r => (lentAt τ ls).bind fun o => .ok (r, o)
    | .nx => (lentAt τ ls).bind fun o => .ok (.fz .non, o)
    | _ => .bad
  else .bad
/-- to whom an address belongs -/
noncomputable def ioOf (as : Nat → List Addr) (a : Addr) : Option Nat := open Classical in if h : ∃ i, a ∈ as i then some h.choose else none
theorem ioOf_in {as : Nat → List Addr} {a : Addr} {i : Nat} (hp : ∀ i j a, a ∈ as i → a ∈ as j → i = j) (h : a ∈ as i) : ioOf as a = some i := by
  have hx : ∃ i, a ∈ as i := ⟨i, h⟩
  unfold ioOf
  rw [dif_pos hx, hp _ _ a hx.choose_spec h]
theorem ioOf_some {as : Nat → List Addr} {a : Addr} {i : Nat} (h : ioOf as a = some i) : a ∈ as i := by
  unfold ioOf at h
  by_cases hx : ∃ i, a ∈ as i
  · rw [dif_pos hx] at h
    have := hx.choose_spec
    cases h
    exact this
  · rw [dif_neg hx] at h; cases h
theorem ioOf_none {as : Nat → List Addr} {a : Addr} (h : ioOf as a = none) : ∀ i, a ∉ as i := fun i z => by
  unfold ioOf at h
  rw [dif_pos ⟨i, z⟩] at h
  cases h
noncomputable def fxOf (F H : Hp) (ls : List Nat) (as : Nat → List Addr) (vs : List V) : Fx :=
  { F0 := F, H0 := H, io := ioOf as, ios := ls.map fun j => (j, vs.getD j .non), pend := [] }
theorem fxOf_ios {F H : Hp} {ls : List Nat} {as : Nat → List Addr} {vs : List V} : (fxOf F H ls as vs).ios.map (·.1) = ls := by
  show (ls.map fun j => (j, vs.getD j .non)).map (·.1) = ls
  rw [List.map_map]
  exact List.map_id' ls
theorem slotAt_start {os : List OV} {k i : Nat} {o : OV} (h : slotAt (os.map some ++ List.replicate k none) i = some o) : os[i]? = some o := by
  unfold slotAt at h
  by_cases hi : i < os.length
  · rw [List.getElem?_append_left (by simpa using hi), List.getElem?_map] at h
    cases e : os[i]? with
    | none => rw [e] at h; cases h
    | some u => rw [e] at h; simpa using h
  · rw [List.getElem?_append_right (by simpa using hi), List.getElem?_replicate] at h
    split at h <;> cases h
theorem start_get {N : List Str} {vs : List V} {i : Nat} {v : V} (h : vs[i]? = some v) : (L2.start N vs)[i]? = some (some v) := by
  have hi : i < vs.length := (List.getElem?_eq_some_iff.mp h).1
  unfold L2.start
  rw [List.getElem?_append_left (by simpa using hi), List.getElem?_map, h]
  rfl
theorem lentAt_get {τ : T} : ∀ {ls : List Nat} {os : List OV} {n j : Nat} {o : OV}, lentAt τ ls = .ok os → ls[n]? = some j → os[n]? = some o → slotAt τ j = some o
  | [], os, n, j, o, _, h, _ => by simp at h
  | l :: ls, os, n, j, o, e, h1, h2 => by
    unfold lentAt at e
    obtain ⟨o1, e1, e⟩ := Res.bind_ok e
    obtain ⟨os1, e2, e⟩ := Res.bind_ok e
    cases e
    cases n with
    | zero => cases h1; cases h2; exact Res.of_ok e1
    | succ n => exact lentAt_get e2 (by simpa using h1) (by simpa using h2)
section
variable {K : PySem.W.Frag} {F H : Hp} {as : Nat → List Addr} {ls : List Nat} {os : List OV} {vs : List V} {N : List Str} {n : Nat}
theorem rel_start (s : Same F H) (hn : ∀ i, ∀ a ∈ as i, F a = none) (h : ArgsR K F H as ls os vs) (hl : os.length = n) (hj : ∀ j ∈ ls, j < n) : Rel K (fxOf F H ls as vs) F as (os.map some ++ List.replicate (N.length - n) none) (L2.start N vs) H := by
  refine ⟨s, Same.refl _, fun a o e _ => e, fun a o e => .inl (by show F a ≠ none; rw [e]; simp), ?_, fun i o e => ?_, h.apart, fun i a z => ⟨hn i a z, .inr (ioOf_in h.apart z)⟩, fun i a z => h.there i a z, fun a e => e, fun p hp => ?_, fun a i e => ?_, fun t ht => absurd ht (by simp [fxOf])⟩
  · unfold L2.start
    rw [List.length_append, List.length_append, List.length_map, List.length_map, List.length_replicate, List.length_replicate, ← h.length, hl]
  · obtain ⟨v, e2, q⟩ := h.slot i o (slotAt_start e)
    exact ⟨v, start_get e2, q⟩
  · obtain ⟨j, hj1, rfl⟩ := List.mem_map.mp hp
    have hlt : j < vs.length := by rw [← h.length, hl]; exact hj j hj1
    have e2 : vs[j]? = some vs[j] := List.getElem?_eq_getElem hlt
    show (L2.start N vs)[j]? = some (some (vs.getD j .non))
    rw [List.getD_eq_getElem?_getD, e2]
    exact start_get e2
  · show i ∈ (fxOf F H ls as vs).ios.map (·.1)
    rw [fxOf_ios]
    by_cases z : i ∈ ls
    · exact z
    · have := ioOf_some (show ioOf as a = some i from e)
      rw [h.out i z] at this
      exact absurd this (by simp)
open Classical in
theorem rel_end {F' H' : Hp} {fp' : Nat → List Addr} {τ' : T} {σ' : L2.St} {r : OV} {os' : List OV} {v : V} {bs : List Addr} (h : ArgsR K F H as ls os vs) (R : Rel K (fxOf F H ls as vs) F' fp' τ' σ' H') (t : Tmp K (fxOf F H ls as vs) F' fp' H' r v bs) (e : lentAt τ' ls = .ok os') :
    Post K ls F H as vs r os' F' H' v bs (fun i => if i ∈ ls then fp' i else []) := by
  have sub : ∀ {i : Nat} {a : Addr}, a ∈ (if i ∈ ls then fp' i else []) → a ∈ fp' i ∧ i ∈ ls := fun {i a} z => by
    by_cases hi : i ∈ ls
    · rw [if_pos hi] at z; exact ⟨z, hi⟩
    · rw [if_neg hi] at z; exact absurd z (by simp)
  refine ⟨R.sub, R.old, fun a u e1 e2 => R.frame a u e1 ?_, R.new, R.stay, t.own, fun a ha => ⟨(t.new a ha).1, (t.new a ha).2, fun i z => t.apart a ha i (sub z).1⟩, fun n j o w hj ho ew => ?_, fun i a ha => ?_, fun i j a h1 h2 => R.apart i j a (sub h1).1 (sub h2).1, fun i hi => if_neg hi, fun i a ha => R.lay i a (sub ha).1⟩
  · show ioOf as a = none
    cases z : ioOf as a with
    | none => rfl
    | some i => exact absurd (ioOf_some z) (e2 i)
  · have hm : j ∈ ls := List.mem_of_getElem? hj
    rw [if_pos hm]
    obtain ⟨w', e1, q⟩ := R.slot j o (lentAt_get e hj ho)
    have e2 := R.lent (j, vs.getD j .non) (List.mem_map.mpr ⟨j, hm, rfl⟩)
    have e3 : σ'[j]? = some (some w) := by
      have z : vs.getD j .non = w := by rw [List.getD_eq_getElem?_getD, ew]; rfl
      rw [z] at e2
      exact e2
    rw [e3] at e1
    cases e1
    exact q
  · obtain ⟨h1, h2⟩ := R.own i a (sub ha).1
    refine ⟨h1, h2.imp id fun z => ?_⟩
    exact ioOf_some (show ioOf as a = some i from z)
end

/-! ### behind a call: each lent position j stands for a slot, or for data -/
/-- where the lent values go back -/
def backL : T → List (Option Nat) → List OV → Option T
  | τ, [], [] => some τ
  | τ, none :: ms, _ :: os => backL τ ms os
  | τ, some m :: ms, o :: os => backL (τ.set m (some o)) ms os
  | _, _, _ => none
/-- what slot m's position is -/
theorem backL_len : ∀ {ms : List (Option Nat)} {os : List OV} {τ τ' : T}, backL τ ms os = some τ' → τ'.length = τ.length
  | [], [], τ, τ', e => by cases e; rfl
  | [], _ :: _, τ, τ', e => by cases e
  | none :: ms, [], τ, τ', e => by cases e
  | some m :: ms, [], τ, τ', e => by cases e
  | none :: ms, o :: os, τ, τ', e => backL_len (ms := ms) e
  | some m :: ms, o :: os, τ, τ', e => by
    have := backL_len (ms := ms) (τ := τ.set m (some o)) e
    rw [this, List.length_set]
/-- a slot's value behind: its own, or what came back -/
theorem backL_at : ∀ {ms : List (Option Nat)} {os : List OV} {τ τ' : T} {k : Nat} {u : OV}, backL τ ms os = some τ' → slotAt τ' k = some u → (slotAt τ k = some u ∧ some k ∉ ms) ∨ ∃ n : Nat, ms[n]? = some (some k) ∧ os[n]? = some u
  | [], [], τ, τ', k, u, e, h => by cases e; exact .inl ⟨h, by simp⟩
  | [], _ :: _, τ, τ', k, u, e, h => by cases e
  | none :: ms, [], τ, τ', k, u, e, h => by cases e
  | some m :: ms, [], τ, τ', k, u, e, h => by cases e
  | none :: ms, o :: os, τ, τ', k, u, e, h => by
    rcases backL_at (ms := ms) e h with ⟨h1, h2⟩ | ⟨n, h1, h2⟩
    · exact .inl ⟨h1, by simp [h2]⟩
    · exact .inr ⟨n + 1, by simpa using h1, by simpa using h2⟩
  | some m :: ms, o :: os, τ, τ', k, u, e, h => by
    rcases backL_at (ms := ms) (τ := τ.set m (some o)) e h with ⟨h1, h2⟩ | ⟨n, h1, h2⟩
    · by_cases hk : k = m
      · subst hk
        by_cases hl : k < τ.length
        · rw [slotAt_set_same hl] at h1
          cases h1
          exact .inr ⟨0, rfl, rfl⟩
        · unfold slotAt at h1
          rw [List.getElem?_eq_none (by rw [List.length_set]; omega)] at h1
          cases h1
      · rw [slotAt_set_ne (Ne.symm hk)] at h1
        exact .inl ⟨h1, by simp [h2, hk]⟩
    · exact .inr ⟨n + 1, by simpa using h1, by simpa using h2⟩
/-- how arguments stand to slots: position j's own addresses are those of slot m -/
structure Back (fp : Nat → List Addr) (σ : L2.St) (ls : List Nat) (ms : List (Option Nat)) (as : Nat → List Addr) (vs : List V) : Prop where
  len : ms.length = ls.length
  some_ : ∀ n j m : Nat, ls[n]? = some j → ms[n]? = some (some m) → as j = fp m ∧ ∃ w, σ[m]? = some (some w) ∧ vs[j]? = some w
  none_ : ∀ n j : Nat, ls[n]? = some j → ms[n]? = some none → as j = []
  inj : ∀ n n' m : Nat, ms[n]? = some (some m) → ms[n']? = some (some m) → n = n'
  out : ∀ j, j ∉ ls → as j = []
  nd : ls.Nodup
open Classical in
/-- the slots' own addresses behind: those of the position that stands for it -/
noncomputable def fpBack (fp : Nat → List Addr) (ls : List Nat) (ms : List (Option Nat)) (cs : Nat → List Addr) : Nat → List Addr := fun k =>
  if h : ∃ n j : Nat, ls[n]? = some j ∧ ms[n]? = some (some k) then cs h.choose_spec.choose else fp k
section
variable {K : PySem.W.Frag} {C : Fx} {F F' H H' : Hp} {fp : Nat → List Addr} {τ τ' : T} {σ : L2.St} {ls : List Nat} {ms : List (Option Nat)} {as cs : Nat → List Addr} {vs : List V} {r : OV} {os : List OV} {v : V} {bs : List Addr}
theorem fpBack_in {n j k : Nat} (hi : ∀ n n' m : Nat, ms[n]? = some (some m) → ms[n']? = some (some m) → n = n') (h1 : ls[n]? = some j) (h2 : ms[n]? = some (some k)) : fpBack fp ls ms cs k = cs j := by
  have hx : ∃ n j : Nat, ls[n]? = some j ∧ ms[n]? = some (some k) := ⟨n, j, h1, h2⟩
  unfold fpBack
  rw [dif_pos hx]
  have e := hx.choose_spec.choose_spec
  have en := hi _ _ _ e.2 h2
  have e1 : ls[n]? = some hx.choose_spec.choose := (congrArg (fun z => ls[z]?) en).symm.trans e.1
  rw [h1] at e1
  exact congrArg cs (Option.some.inj e1).symm
theorem fpBack_out {k : Nat} (h : ¬ ∃ n j : Nat, ls[n]? = some j ∧ ms[n]? = some (some k)) : fpBack fp ls ms cs k = fp k := by
  unfold fpBack
  rw [dif_neg h]
theorem Rel.after (R : Rel K C F fp τ σ H) (Bk : Back fp σ ls ms as vs) (P : Post K ls F H as vs r os F' H' v bs cs) (e : backL τ ms os = some τ') :
    Rel K C F' (fpBack fp ls ms cs) τ' σ H' ∧ Tmp K C F' (fpBack fp ls ms cs) H' r v bs := by
  -- whose an argument's addresses are
  have owner : ∀ {j : Nat} {a : Addr}, a ∈ as j → ∃ n m : Nat, ls[n]? = some j ∧ ms[n]? = some (some m) ∧ a ∈ fp m := fun {j a} ha => by
    by_cases hj : j ∈ ls
    · obtain ⟨n, hn⟩ := List.mem_iff_getElem?.mp hj
      have hlt : n < ms.length := by rw [Bk.len]; exact (List.getElem?_eq_some_iff.mp hn).1
      cases hm : ms[n] with
      | none =>
        have hm : ms[n]? = some none := by rw [List.getElem?_eq_getElem hlt, hm]
        rw [Bk.none_ n j hn hm] at ha
        exact absurd ha (by simp)
      | some m =>
        have hm : ms[n]? = some (some m) := by rw [List.getElem?_eq_getElem hlt, hm]
        exact ⟨n, m, hn, hm, by rw [← (Bk.some_ n j m hn hm).1]; exact ha⟩
    · rw [Bk.out j hj] at ha
      exact absurd ha (by simp)
  have out : ∀ {b : Addr}, F b = none → H b ≠ none → F' b = none := fun {b} h1 h2 => by
    cases z : F' b with
    | none => rfl
    | some u =>
      rcases P.new b u z with q | q
      · exact absurd h1 q
      · exact absurd q h2
  -- a slot that was not lent
  have apartS : ∀ {k : Nat}, (¬ ∃ n j : Nat, ls[n]? = some j ∧ ms[n]? = some (some k)) → ∀ {b : Addr}, b ∈ fp k → ∀ i, b ∉ as i := fun {k} hk {b} hb i z => by
    obtain ⟨n, m, h1, h2, h3⟩ := owner z
    have := R.apart k m b hb h3
    subst this
    exact hk ⟨n, i, h1, h2⟩
  have cfr : ∀ {b : Addr} {j k : Nat}, b ∈ cs j → (¬ ∃ n j : Nat, ls[n]? = some j ∧ ms[n]? = some (some k)) → b ∉ fp k := fun {b j k} hb hk z => by
    rcases (P.lentn j b hb).2 with q | q
    · exact R.lay k b z q
    · exact apartS hk z j q
  have cown : ∀ {n j k : Nat} {a : Addr}, ls[n]? = some j → ms[n]? = some (some k) → a ∈ cs j → F' a = none ∧ (C.H0 a = none ∨ C.io a = some k) := fun {n j k a} h1 h2 ha => by
    refine ⟨(P.lentn j a ha).1, ?_⟩
    rcases (P.lentn j a ha).2 with y | y
    · exact .inl (R.stay a y)
    · rw [(Bk.some_ n j k h1 h2).1] at y
      exact (R.own k a y).2
  refine ⟨⟨P.sub, fun a u q => P.old a u (R.old a u q), fun a u q1 q2 => P.frame a u (R.frame a u q1 q2) fun i z => ?_, fun a u q => ?_, by rw [backL_len e]; exact R.len, fun k u q => ?_, fun k m a q1 q2 => ?_, fun k a q => ?_, fun k a q => ?_, fun a q => R.stay a (P.stay a q), R.lent, R.ioc, fun t ht => ?_⟩, ⟨P.ans, fun a q k z => ?_, fun a q => ⟨(P.ansn a q).1, R.stay a (P.ansn a q).2.1⟩, fun a q t ht z => ((R.pend t ht).2 a z).2.1 (P.ansn a q).2.1⟩⟩
  · obtain ⟨n, m, h1, h2, h3⟩ := owner z
    rcases (R.own m a h3).2 with y | y
    · rw [y] at q1; cases q1
    · rw [y] at q2; cases q2
  · rcases P.new a u q with y | y
    · cases z : F a with
      | none => exact absurd z y
      | some u' => exact R.new a u' z
    · exact .inr (R.stay a y)
  · by_cases hk : ∃ n j : Nat, ls[n]? = some j ∧ ms[n]? = some (some k)
    · obtain ⟨n, j, h1, h2⟩ := hk
      rw [fpBack_in Bk.inj h1 h2]
      rcases backL_at e q with ⟨_, h3⟩ | ⟨n', h3, h4⟩
      · exact absurd (List.mem_of_getElem? h2) h3
      · have en := Bk.inj _ _ _ h3 h2
        subst en
        obtain ⟨_, w, e1, e2⟩ := Bk.some_ n' j k h1 h2
        exact ⟨w, e1, P.lent n' j u w h1 h4 e2⟩
    · rw [fpBack_out hk]
      rcases backL_at e q with ⟨h3, _⟩ | ⟨n', h3, h4⟩
      · obtain ⟨x, e1, y⟩ := R.slot k u h3
        exact ⟨x, e1, y.keep P.old fun b hb z hz => P.frame b z hz (apartS hk hb)⟩
      · have hlt : n' < ls.length := by rw [← Bk.len]; exact (List.getElem?_eq_some_iff.mp h3).1
        exact absurd ⟨n', ls[n'], List.getElem?_eq_getElem hlt, h3⟩ hk
  · by_cases hk : ∃ n j : Nat, ls[n]? = some j ∧ ms[n]? = some (some k)
    · by_cases hm : ∃ n j : Nat, ls[n]? = some j ∧ ms[n]? = some (some m)
      · obtain ⟨n, j, h1, h2⟩ := hk
        obtain ⟨n', j', h3, h4⟩ := hm
        rw [fpBack_in Bk.inj h1 h2] at q1
        rw [fpBack_in Bk.inj h3 h4] at q2
        have ej := P.apart j j' a q1 q2
        subst ej
        have en : n = n' := by
          obtain ⟨l1, e1⟩ := List.getElem?_eq_some_iff.mp h1
          obtain ⟨l3, e3⟩ := List.getElem?_eq_some_iff.mp h3
          have hp := List.pairwise_iff_getElem.mp Bk.nd
          rcases Nat.lt_trichotomy n n' with q | q | q
          · exact absurd (e1.trans e3.symm) (hp n n' l1 l3 q)
          · exact q
          · exact absurd (e3.trans e1.symm) (hp n' n l3 l1 q)
        subst en
        rw [h2] at h4
        cases h4
        rfl
      · obtain ⟨n, j, h1, h2⟩ := hk
        rw [fpBack_in Bk.inj h1 h2] at q1
        rw [fpBack_out hm] at q2
        exact absurd q2 (cfr q1 hm)
    · by_cases hm : ∃ n j : Nat, ls[n]? = some j ∧ ms[n]? = some (some m)
      · obtain ⟨n', j', h3, h4⟩ := hm
        rw [fpBack_out hk] at q1
        rw [fpBack_in Bk.inj h3 h4] at q2
        exact absurd q1 (cfr q2 hk)
      · rw [fpBack_out hk] at q1
        rw [fpBack_out hm] at q2
        exact R.apart k m a q1 q2
  · by_cases hk : ∃ n j : Nat, ls[n]? = some j ∧ ms[n]? = some (some k)
    · obtain ⟨n, j, h1, h2⟩ := hk
      rw [fpBack_in Bk.inj h1 h2] at q
      exact cown h1 h2 q
    · rw [fpBack_out hk] at q
      exact ⟨out (R.own k a q).1 (R.lay k a q), (R.own k a q).2⟩
  · by_cases hk : ∃ n j : Nat, ls[n]? = some j ∧ ms[n]? = some (some k)
    · obtain ⟨n, j, h1, h2⟩ := hk
      rw [fpBack_in Bk.inj h1 h2] at q
      exact P.lay j a q
    · rw [fpBack_out hk] at q
      exact fun z => R.lay k a q (P.stay a z)
  · obtain ⟨g, m⟩ := R.pend t ht
    have np : ∀ b ∈ t.2.2, ∀ i, b ∉ as i := fun b hb i z => by
      obtain ⟨n, m', h1, h2, h3⟩ := owner z
      exact (m b hb).2.2 m' h3
    refine ⟨g.keep P.old fun b hb z hz => P.frame b z hz (np b hb), fun a q => ⟨out (m a q).1 (m a q).2.1, fun z => (m a q).2.1 (P.stay a z), fun k z => ?_⟩⟩
    by_cases hk : ∃ n j : Nat, ls[n]? = some j ∧ ms[n]? = some (some k)
    · obtain ⟨n, j, h1, h2⟩ := hk
      rw [fpBack_in Bk.inj h1 h2] at z
      rcases (P.lentn j a z).2 with y | y
      · exact (m a q).2.1 y
      · exact np a q j y
    · rw [fpBack_out hk] at z
      exact (m a q).2.2 k z
  · by_cases hk : ∃ n j : Nat, ls[n]? = some j ∧ ms[n]? = some (some k)
    · obtain ⟨n, j, h1, h2⟩ := hk
      rw [fpBack_in Bk.inj h1 h2] at z
      exact (P.ansn a q).2.2 j z
    · rw [fpBack_out hk] at z
      exact R.lay k a z (P.ansn a q).2.1
end
end Pf

/-! Pf9: contexts, defs, calls. -/
namespace Pf
open PySem PySem.Spec PyProof.Rows L2

/-- what the rules ask of a context, told once -/
structure Cd where
  P : Program
  w : World
  K : PySem.W.Frag
  mg : Str → Option Value
  base : Heap
  N : List Str
  sc : Scope
  fb : Str → Bool
structure Bd (X : Cx) (c : Cd) (k : Nat) : Prop where
  prog : X.prog = c.P
  w : X.w = c.w
  K : X.K = c.K
  mg : X.mg = c.mg
  base : X.base = c.base
  N : X.N = c.N
  sc : X.env.scope = c.sc
  fb : X.fn = c.fb
  calm : X.calm = true
  guards : X.A.guards = some []
  room : Room k X.A
  nox : X.xe = fun _ _ => False
  nd : c.N.Nodup

/-! ### defs -/
structure FnG (P : Program) (w : World) (K : PySem.W.Frag) (mg : Str → Option Value) (base : Heap) (k : Nat) (f : Addr) (fd : FuncData) (ps : List Str) (sp : Sp) : Prop where
  cnt : ∀ vs H Q, sp vs H Q E0 → vs.length = ps.length
  go : ∀ {A : Around} {outer : List Env} {s : Shared} {H : Hp} {args : Args} {us : List Value} {vs : List V} {Q : VK}, A.guards = some [] → Room k A → Env0 P w K mg base A outer s H → BindsTo s fd args (ps.zip us) → Vals vs us → sp vs H Q E0 →
    codeAny (model P w) A (.call (.ref f) args) (CR CX0 outer P w H s Q E0) s
theorem FnG.up {P : Program} {w : World} {K : PySem.W.Frag} {mg : Str → Option Value} {base : Heap} {j k : Nat} {f : Addr} {fd : FuncData} {ps : List Str} {sp : Sp} (G : FnG P w K mg base j f fd ps sp) (h : j ≤ k) : FnG P w K mg base k f fd ps sp :=
  ⟨G.cnt, fun hg hr => G.go hg (hr.mono h)⟩
section
variable {P : Program} {w : World} {K : PySem.W.Frag} {mg : Str → Option Value} {base : Heap} {k : Nat} {f : Addr} {fd : FuncData} {name qual : Str} {params : Arguments} {body : List Stmt} {scope : Scope} {N ps : List Str}
theorem fng_of {sp : Sp} (FD : FunD K name qual params body scope [] [] f fd) (S : FnScope N ps scope) (cnt : ∀ vs H Q, sp vs H Q E0 → vs.length = ps.length)
    (hb : ∀ (X : Cx), Bd X ⟨P, w, K, mg, base, N, scope, fun _ => true⟩ k → ∀ (vs : List V) (H : Hp) (Q : VK), sp vs H Q E0 → ∃ t, PSs X body t ∧ t { nx := fun _ H' => Q .non H', rt := Q } (L2.start N vs) H) :
    FnG P w K mg base (k + 1) f fd ps sp := by
  obtain ⟨oc, od, dV, kV, doc, pm, an, cdv, ct, osl, rfl, lk, hcd, _, _⟩ := FD.ex
  refine ⟨cnt, fun {A outer s H args us vs Q} gd rm e0 bt rv hsp => ?_⟩
  have lv := cnt _ _ _ hsp
  have inK : K.In s.heap := e0.mod.kin.keeps fun b o q => (e0.bs b o q).1
  have nl : s.heap.NoLimit := e0.mod.nolimit.keeps fun b o q => (e0.bs b o q).1
  have kinds : ∀ y ∈ ps.zip us, scope.names.lookup y.1 = some .local ∨ (scope.names.lookup y.1 = some .cell ∧ ((cellsFrom (s.heap.objs.size + 1) scope.names []).lookup y.1).isSome = true) := by
    intro y hy
    obtain ⟨n, v⟩ := y
    exact (S.par n (List.of_mem_zip hy).1).imp id fun q => ⟨q, PySem.W.cellsFrom_some _ _ _ (.inl q)⟩
  refine codeAny_call_function rm.depth (inK _ _ lk) rfl S.co S.gen rfl (PySem.W.codeRec_of inK hcd) (bt _ _ _ _ ?_)
  refine wpAny_newFunctionEnv_cells S.kind kinds fun env eh s1 ic => ?_
  subst eh
  refine ⟨nl.keeps ic.toInCall.keep, codeAny_func ?_⟩
  have B : Bd (cxOf CX0 P w K mg base N qual scope f cdv A outer s H E0).nox ⟨P, w, K, mg, base, N, scope, fun _ => true⟩ k := ⟨rfl, rfl, rfl, rfl, rfl, rfl, rfl, rfl, rfl, gd, rm.deeper _, rfl, S.nd⟩
  obtain ⟨t, ht, hq⟩ := hb _ B vs H Q hsp
  have I := inv_start (CX := CX0) (P := P) (w := w) (mg := mg) (base := base) (qual := qual) (f := f) (cd := cdv) (E := E0) S rm.hd e0 lv rv ic
  refine wpAny_mono (ht.nox.run [] s1 (L2.start N vs) H _ I hq) (fun fl s' hs => ?_) fun e s' hs => hs
  cases fl with
  | next =>
    obtain ⟨σ', H', J, q⟩ := hs
    exact ⟨.non, H', J.os, J.bare, J.base, J.hok, rfl, q⟩
  | ret u =>
    obtain ⟨v, σ', H', J, r, q⟩ := hs
    exact ⟨v, H', J.os, J.bare, J.base, J.hok, r, q⟩
  | brk => obtain ⟨_, _, _, q⟩ := hs; exact q.elim
  | cont => obtain ⟨_, _, _, q⟩ := hs; exact q.elim
/-- a def by its body's function -/
theorem fn_ok {l : List Nat} {g : FS} (FD : FunD K name qual params body scope [] [] f fd) (S : FnScope N ps scope) (hb : ∀ (X : Cx), Bd X ⟨P, w, K, mg, base, N, scope, fun _ => true⟩ k → XB X l body g) :
    FnG P w K mg base (k + 1) f fd ps (spP K ps.length l (runF N.length ps.length l g)) := by
  refine fng_of FD S (fun vs H Q h => ?_) fun X B vs H Q h => ⟨_, hb X B, ?_⟩
  · obtain ⟨F, os, as, r, o, _, _, ha, hl, _⟩ := h
    rw [← ha.length, hl]
  · obtain ⟨F, os, as, r, o, sm, hn, ha, hl, e, q⟩ := h
    unfold runF at e
    by_cases hc : os.length = ps.length ∧ l.all (fun j => decide (j < ps.length)) = true
    · rw [if_pos hc] at e
      obtain ⟨⟨fl, τ'⟩, e1, e⟩ := Res.bind_ok e
      have hj : ∀ j ∈ l, j < ps.length := fun j z => of_decide_eq_true (List.all_eq_true.mp hc.2 j z)
      have R := rel_start (N := N) sm hn ha hl hj
      have bk : X.K = K := B.K
      rw [← bk] at R
      refine ⟨fxOf F H l as vs, F, _, _, fl, τ', fxOf_ios, R, e1, fun F' fp' σ' H' R' s' => ?_⟩
      rw [bk] at R'
      cases fl with
      | rt r' =>
        obtain ⟨o', e2, e3⟩ := Res.bind_ok e
        cases e3
        intro v bs t
        rw [bk] at t
        exact q F' H' v bs _ (rel_end ha R' t e2)
      | nx =>
        obtain ⟨o', e2, e3⟩ := Res.bind_ok e
        cases e3
        obtain ⟨R2, bs, t⟩ := (grow_non R'.sub).rel R'
        exact q F' H' .non bs _ (rel_end ha R2 t e2)
      | bk => cases e
      | ct => cases e
    · rw [if_neg hc] at e; cases e
end

/-! ### calls -/
/-- what a caller knows of a def -/
structure Cal (c : Cd) (k : Nat) (x : Str) (n : Nat) (l : List Nat) (fn : FV) : Prop where
  ex : ∃ f fd ps, FnG c.P c.w c.K c.mg c.base k f fd ps (spP c.K n l fn) ∧ c.mg x = some (.ref f) ∧ PySem.W.keepIn c.K (.ref f) = true ∧ Binds c.K fd ps []
/-- the arguments' values from position k on, the lent ones' slots (ls: which positions are lent) -/
def argsOf (τ : T) : Nat → List Nat → List Pre → Option (List OV × List (Option Nat))
  | _, [], ps => (datas ps).map fun ds => (ds.map OV.fz, [])
  | _, _ :: _, [] => none
  | k, j :: ls, p :: ps => if j = k then (match p with
      | .sl m => match slotAt τ m, argsOf τ (k + 1) ls ps with
        | some o, some (os, ms) => some (o :: os, some m :: ms)
        | _, _ => none
      | .val (.fz d) => match argsOf τ (k + 1) ls ps with
        | some (os, ms) => some (.fz d :: os, none :: ms)
        | none => none
      | _ => none)
    else match p with
      | .val (.fz d) => match argsOf τ (k + 1) (j :: ls) ps with
        | some (os, ms) => some (.fz d :: os, ms)
        | none => none
      | _ => none
def callF (n : Nat) (l : List Nat) (fn : FV) (h : FA) : FP := fun τ => (h τ).bind fun (ps, τ1) => match argsOf τ1 0 l ps with
  | some (os, ms) => if os.length = n ∧ (ms.filterMap id).Nodup then (fn os).bind fun (r, os') => (Res.of (backL τ1 ms os')).bind fun τ2 => .ok (.val r, τ2) else .bad
  | none => .bad
section
variable {X : Cx} {K : PySem.W.Frag} {C : Fx} {F : Hp} {fp : Nat → List Addr} {τ : T} {σ : L2.St} {H : Hp}
/-- what argsOf tells, from position k on -/
structure ArgsOk (K : PySem.W.Frag) (F H : Hp) (fp : Nat → List Addr) (σ : L2.St) (k : Nat) (ls : List Nat) (ms : List (Option Nat)) (os : List OV) (vs : List V) (as : Nat → List Addr) : Prop where
  length : os.length = vs.length
  slot : ∀ i o, os[i]? = some o → ∃ v, vs[i]? = some v ∧ Own K F H o v (as (k + i))
  out : ∀ j, j ∉ ls → as j = []
  len : ms.length = ls.length
  some_ : ∀ n j m : Nat, ls[n]? = some j → ms[n]? = some (some m) → as j = fp m ∧ ∃ w, σ[m]? = some (some w) ∧ vs[j - k]? = some w
  none_ : ∀ n j : Nat, ls[n]? = some j → ms[n]? = some none → as j = []
  low : ∀ j ∈ ls, k ≤ j ∧ j < k + os.length
  nd : ls.Nodup
theorem argsOf_ok (R : Rel K C F fp τ σ H) : ∀ {k : Nat} {ls : List Nat} {ps : List Pre} {vs : List V} {os : List OV} {ms : List (Option Nat)}, OpdRs K F σ ps vs → argsOf τ k ls ps = some (os, ms) → ∃ as, ArgsOk K F H fp σ k ls ms os vs as
  | k, [], ps, vs, os, ms, h, e => by
    unfold argsOf at e
    cases z : datas ps with
    | none => rw [z] at e; cases e
    | some ds =>
      rw [z] at e
      cases e
      have r := h.datas z
      refine ⟨fun _ => [], by rw [List.length_map, r.length], fun i o ho => ?_, fun _ _ => rfl, rfl, fun n j m q => by simp at q, fun n j q => by simp at q, fun j q => by simp at q, List.nodup_nil⟩
      rw [List.getElem?_map] at ho
      cases y : ds[i]? with
      | none => rw [y] at ho; cases ho
      | some d =>
        rw [y] at ho
        cases ho
        obtain ⟨v, e1, q⟩ := r.get y
        exact ⟨v, e1, Own.of_rep q⟩
  | k, j :: ls, [], vs, os, ms, h, e => by cases e
  | k, j :: ls, p :: ps, vs, os, ms, h, e => by
    rw [OpdRs] at h
    obtain ⟨v, ws, rfl, hv, hw⟩ := h
    unfold argsOf at e
    by_cases hj : j = k
    · subst hj
      rw [if_pos rfl] at e
      cases p with
      | sl m =>
        dsimp only at e
        cases hs : slotAt τ m with
        | none => rw [hs] at e; cases e
        | some o =>
          cases ha : argsOf τ (j + 1) ls ps with
          | none => rw [hs, ha] at e; cases e
          | some y =>
            obtain ⟨os', ms'⟩ := y
            rw [hs, ha] at e
            cases e
            obtain ⟨as, A⟩ := argsOf_ok R hw ha
            obtain ⟨w, e1, q⟩ := R.slot _ _ hs
            have e2 : some (some w) = some (some v) := e1.symm.trans hv
            cases e2
            have far : ∀ i ∈ ls, i ≠ j := fun i hi => by have := (A.low i hi).1; omega
            refine ⟨fun i => if i = j then fp m else as i, by rw [List.length_cons, List.length_cons, A.length], fun i o' ho => ?_, fun i hi => ?_, by rw [List.length_cons, List.length_cons, A.len], fun n i m' h1 h2 => ?_, fun n i h1 h2 => ?_, fun i hi => ?_, ?_⟩
            · cases i with
              | zero =>
                cases ho
                exact ⟨v, rfl, by rw [Nat.add_zero, if_pos rfl]; exact q⟩
              | succ i =>
                obtain ⟨u, e3, q3⟩ := A.slot i o' (by simpa using ho)
                refine ⟨u, by simpa using e3, ?_⟩
                rw [if_neg (by omega)]
                have : j + (i + 1) = j + 1 + i := by omega
                rw [this]
                exact q3
            · rw [List.mem_cons, not_or] at hi
              show (if i = j then fp m else as i) = []
              rw [if_neg hi.1]
              exact A.out i hi.2
            · cases n with
              | zero =>
                cases h1
                have h2 : some (some m) = some (some m') := h2
                cases h2
                exact ⟨if_pos rfl, v, hv, by rw [Nat.sub_self]; rfl⟩
              | succ n =>
                obtain ⟨h3, w', h4, h5⟩ := A.some_ n i m' (by simpa using h1) (by simpa using h2)
                have hm : i ∈ ls := List.mem_of_getElem? (by simpa using h1)
                refine ⟨by show (if i = j then fp m else as i) = _; rw [if_neg (far i hm)]; exact h3, w', h4, ?_⟩
                have := (A.low i hm).1
                have e6 : i - j = (i - (j + 1)) + 1 := by omega
                rw [e6]
                simpa using h5
            · cases n with
              | zero =>
                have h2 : some (some m) = some none := h2
                cases h2
              | succ n =>
                have hm : i ∈ ls := List.mem_of_getElem? (by simpa using h1)
                show (if i = j then fp m else as i) = []
                rw [if_neg (far i hm)]
                exact A.none_ n i (by simpa using h1) (by simpa using h2)
            · rcases List.mem_cons.mp hi with z | z
              · subst z; exact ⟨Nat.le_refl _, by rw [List.length_cons]; omega⟩
              · have := A.low i z
                rw [List.length_cons]
                omega
            · exact List.nodup_cons.mpr ⟨fun z => far j z rfl, A.nd⟩
      | val r =>
        cases r with
        | ls xs => cases e
        | fz d =>
          dsimp only at e
          cases ha : argsOf τ (j + 1) ls ps with
          | none => rw [ha] at e; cases e
          | some y =>
            obtain ⟨os', ms'⟩ := y
            rw [ha] at e
            cases e
            obtain ⟨as, A⟩ := argsOf_ok R hw ha
            obtain ⟨d', e', rv⟩ := hv
            cases e'
            have far : ∀ i ∈ ls, i ≠ j := fun i hi => by have := (A.low i hi).1; omega
            have hjl : j ∉ ls := fun z => far j z rfl
            refine ⟨as, by rw [List.length_cons, List.length_cons, A.length], fun i o' ho => ?_, fun i hi => ?_, by rw [List.length_cons, List.length_cons, A.len], fun n i m' h1 h2 => ?_, fun n i h1 h2 => ?_, fun i hi => ?_, ?_⟩
            · cases i with
              | zero =>
                cases ho
                exact ⟨v, rfl, by rw [Nat.add_zero, A.out j hjl]; exact Own.of_rep rv⟩
              | succ i =>
                obtain ⟨u, e3, q3⟩ := A.slot i o' (by simpa using ho)
                refine ⟨u, by simpa using e3, ?_⟩
                have : j + (i + 1) = j + 1 + i := by omega
                rw [this]
                exact q3
            · rw [List.mem_cons, not_or] at hi
              exact A.out i hi.2
            · cases n with
              | zero =>
                have h2 : some none = some (some m') := h2
                cases h2
              | succ n =>
                obtain ⟨h3, w', h4, h5⟩ := A.some_ n i m' (by simpa using h1) (by simpa using h2)
                have hm : i ∈ ls := List.mem_of_getElem? (by simpa using h1)
                refine ⟨h3, w', h4, ?_⟩
                have := (A.low i hm).1
                have e6 : i - j = (i - (j + 1)) + 1 := by omega
                rw [e6]
                simpa using h5
            · cases n with
              | zero => cases h1; exact A.out j hjl
              | succ n => exact A.none_ n i (by simpa using h1) (by simpa using h2)
            · rcases List.mem_cons.mp hi with z | z
              · subst z; exact ⟨Nat.le_refl _, by rw [List.length_cons]; omega⟩
              · have := A.low i z
                rw [List.length_cons]
                omega
            · exact List.nodup_cons.mpr ⟨hjl, A.nd⟩
    · rw [if_neg hj] at e
      cases p with
      | sl m => cases e
      | val r =>
        cases r with
        | ls xs => cases e
        | fz d =>
          dsimp only at e
          cases ha : argsOf τ (k + 1) (j :: ls) ps with
          | none => rw [ha] at e; cases e
          | some y =>
            obtain ⟨os', ms'⟩ := y
            rw [ha] at e
            cases e
            obtain ⟨as, A⟩ := argsOf_ok R hw ha
            obtain ⟨d', e', rv⟩ := hv
            cases e'
            have hkl : k ∉ j :: ls := fun z => by have := (A.low k z).1; omega
            refine ⟨as, by rw [List.length_cons, List.length_cons, A.length], fun i o' ho => ?_, A.out, A.len, fun n i m' h1 h2 => ?_, A.none_, fun i hi => ?_, A.nd⟩
            · cases i with
              | zero =>
                cases ho
                exact ⟨v, rfl, by rw [Nat.add_zero, A.out k hkl]; exact Own.of_rep rv⟩
              | succ i =>
                obtain ⟨u, e3, q3⟩ := A.slot i o' (by simpa using ho)
                refine ⟨u, by simpa using e3, ?_⟩
                have : k + (i + 1) = k + 1 + i := by omega
                rw [this]
                exact q3
            · obtain ⟨h3, w', h4, h5⟩ := A.some_ n i m' h1 h2
              have hm : i ∈ j :: ls := List.mem_of_getElem? h1
              refine ⟨h3, w', h4, ?_⟩
              have := (A.low i hm).1
              have e6 : i - k = (i - (k + 1)) + 1 := by omega
              rw [e6]
              simpa using h5
            · have := A.low i hi
              rw [List.length_cons]
              omega
theorem filter_inj : ∀ {ms : List (Option Nat)}, (ms.filterMap id).Nodup → ∀ n n' m : Nat, ms[n]? = some (some m) → ms[n']? = some (some m) → n = n'
  | [], _, n, n', m, h1, _ => by simp at h1
  | a :: ms, hd, n, n', m, h1, h2 => by
    have tl : (ms.filterMap id).Nodup := by
      cases a with
      | none => simpa using hd
      | some x =>
        have : (x :: ms.filterMap id).Nodup := by simpa using hd
        exact (List.nodup_cons.mp this).2
    have inm : ∀ {i : Nat}, ms[i]? = some (some m) → m ∈ ms.filterMap id := fun {i} q => List.mem_filterMap.mpr ⟨some m, List.mem_of_getElem? q, rfl⟩
    cases n with
    | zero =>
      cases n' with
      | zero => rfl
      | succ n' =>
        have h1 : a = some m := by simpa using h1
        subst h1
        have : (m :: ms.filterMap id).Nodup := by simpa using hd
        exact absurd (inm (i := n') (by simpa using h2)) (List.nodup_cons.mp this).1
    | succ n =>
      cases n' with
      | zero =>
        have h2 : a = some m := by simpa using h2
        subst h2
        have : (m :: ms.filterMap id).Nodup := by simpa using hd
        exact absurd (inm (i := n) (by simpa using h1)) (List.nodup_cons.mp this).1
      | succ n' => rw [filter_inj tl n n' m (by simpa using h1) (by simpa using h2)]
theorem call_open {io : List Nat} {n : Nat} {l : List Nat} {fn : FV} {h : FA} {Q : VK} (w : rdP X.K io (callF n l fn h) σ H Q) : tCall (spP X.K n l fn) [] E0 (rdA X.K io h) σ H Q := by
  obtain ⟨C, F, fp, τ, p, τ', hio, R, e, q⟩ := w
  obtain ⟨⟨ps, τ1⟩, e1, e⟩ := Res.bind_ok e
  refine ⟨C, F, fp, τ, ps, τ1, hio, R, e1, fun F1 fp1 H1 vs R1 s1 w1 => ?_⟩
  dsimp only at e
  cases z : argsOf τ1 0 l ps with
  | none => rw [z] at e; cases e
  | some y =>
    obtain ⟨os, ms⟩ := y
    rw [z] at e
    dsimp only at e
    by_cases hl : os.length = n ∧ (ms.filterMap id).Nodup
    · rw [if_pos hl] at e
      obtain ⟨⟨r, os'⟩, e2, e3⟩ := Res.bind_ok e
      obtain ⟨τ2, e4, e5⟩ := Res.bind_ok e3
      cases e5
      obtain ⟨as, A⟩ := argsOf_ok R1 w1 z
      have inj := filter_inj hl.2
      have Bk : Back fp1 σ l ms as vs := ⟨A.len, fun n j m h1 h2 => by
        obtain ⟨h3, w, h4, h5⟩ := A.some_ n j m h1 h2
        exact ⟨h3, w, h4, by simpa using h5⟩, A.none_, inj, A.out, A.nd⟩
      have own : ∀ {i : Nat} {a : Addr}, a ∈ as i → ∃ n m : Nat, l[n]? = some i ∧ ms[n]? = some (some m) ∧ a ∈ fp1 m := fun {i a} ha => by
        by_cases hi : i ∈ l
        · obtain ⟨n, hn⟩ := List.mem_iff_getElem?.mp hi
          have hlt : n < ms.length := by rw [A.len]; exact (List.getElem?_eq_some_iff.mp hn).1
          cases hm : ms[n] with
          | none =>
            rw [A.none_ n i hn (by rw [List.getElem?_eq_getElem hlt, hm])] at ha
            exact absurd ha (by simp)
          | some m =>
            have hm : ms[n]? = some (some m) := by rw [List.getElem?_eq_getElem hlt, hm]
            exact ⟨n, m, hn, hm, by rw [← (A.some_ n i m hn hm).1]; exact ha⟩
        · rw [A.out i hi] at ha
          exact absurd ha (by simp)
      rw [List.append_nil]
      refine ⟨F1, os, as, r, os', R1.sub, fun i a y => ?_, ⟨A.length, fun i o ho => by have := A.slot i o ho; rwa [Nat.zero_add] at this, A.out, fun i j a h1 h2 => ?_, fun i hi => ?_⟩, hl.1, e2, fun F2 H2 v bs cs P => ?_⟩
      · obtain ⟨n, m, _, _, h3⟩ := own y
        exact (R1.own m a h3).1
      · obtain ⟨n, m, g1, g2, g3⟩ := own h1
        obtain ⟨n', m', g4, g5, g6⟩ := own h2
        have em := R1.apart m m' a g3 g6
        subst em
        have en := inj n n' m g2 g5
        subst en
        rw [g1] at g4
        cases g4
        rfl
      · by_cases h : i ∈ l
        · have := (A.low i h).2; omega
        · exact A.out i h
      · obtain ⟨R2, t⟩ := Rel.after R1 Bk P (Res.of_ok e4)
        exact q F2 _ H2 v R2 (s1.trans P.old) ⟨bs, t⟩
    · rw [if_neg hl] at e; cases e
/-- the callee runs -/
theorem run_fng {c : Cd} {j k n : Nat} {f : Addr} {fd : FuncData} {ps : List Str} {l : List Nat} {fn : FV} {pins : List (Addr × Obj)} {s : Shared} {Q : VK} {us : List Value} {vs : List V} (B : Bd X c k) (G : FnG c.P c.w c.K c.mg c.base j f fd ps (spP c.K n l fn)) (hj : j ≤ k) (hb : Binds c.K fd ps [])
    (I : Inv X pins σ H s) (r : Vals vs us) (h : spP c.K n l fn vs H Q E0) : wpAny (model X.prog X.w) X.A (call (.ref f) us) (EP X pins σ Q) X.xe s := by
  have lu : us.length = ps.length := by rw [← r.length]; exact G.cnt _ _ _ h
  have kin : c.K.In s.heap := by rw [← B.K]; exact I.kIn
  have bt := hb s us kin (by rw [List.append_nil]; exact lu)
  rw [List.append_nil] at bt
  have e0 := I.env0
  rw [B.prog, B.w, B.K, B.mg, B.base] at e0
  have run := G.go (outer := X.stack) B.guards (B.room.mono hj) e0 bt r h
  rw [← B.prog, ← B.w] at run
  refine wpAny_call (codeAny_mono run fun res s' hq => ?_)
  cases res with
  | error e => exact False.elim hq
  | ok fl =>
    cases fl with
    | ret u => exact I.after hq
    | next => exact False.elim hq
    | brk => exact False.elim hq
    | cont => exact False.elim hq
theorem xp_call {c : Cd} {j k n : Nat} {io : List Nat} {x : Str} {l : List Nat} {fn : FV} {h : FA} {e : Expr} {es : List Expr} {p pos : Pos} (B : Bd X c k) (cl : Cal c j x n l fn) (hj : j ≤ k) (hg : Gl X x) (hdb : (x == ("__debug__" : Str)) = false) (hn : (e :: es).all notStar = true) (ha : XA X io (e :: es) h) :
    XP X io (.Call (.Name x p) (e :: es) [] pos) (callF n l fn h) := by
  obtain ⟨f, fd, ps, G, hm, hk, hb⟩ := cl.ex
  rw [← B.mg] at hm
  rw [← B.K] at hk
  refine pe_weak (t := tCall (spP X.K n l fn) [] E0 (rdA X.K io h)) ⟨fun pins s σ H Q I w => ?_⟩ fun σ H Q w => call_open w
  refine wpAny_Call_Name_kw (ld_glob I hg hm ?_ hdb)
  rw [List.all_cons, Bool.and_eq_true] at hn
  refine PySem.W.callWith_K (h₀ := X.base) I.ok.mod.kin hk (thn (ha.run pos pins s σ H _ I w) fun us s1 ⟨vs, H1, I1, r, q⟩ => ⟨I1.kIn, ?_⟩) (star_cons hn.1) (star_any hn.2)
  have q : spP X.K n l fn (vs ++ []) H1 Q E0 := q
  rw [List.append_nil, B.K] at q
  exact run_fng B G hj hb I1 r q
theorem xp_call0 {c : Cd} {j k n : Nat} {io : List Nat} {x : Str} {l : List Nat} {fn : FV} {p pos : Pos} (B : Bd X c k) (cl : Cal c j x n l fn) (hj : j ≤ k) (hg : Gl X x) (hdb : (x == ("__debug__" : Str)) = false) :
    XP X io (.Call (.Name x p) [] [] pos) (callF n l fn nilA) := by
  obtain ⟨f, fd, ps, G, hm, hk, hb⟩ := cl.ex
  rw [← B.mg] at hm
  rw [← B.K] at hk
  refine pe_weak (t := tCall (spP X.K n l fn) [] E0 tNil) ⟨fun pins s σ H Q I w => ?_⟩ fun σ H Q w => ?_
  · refine wpAny_Call_Name_kw (ld_glob I hg hm ?_ hdb)
    refine PySem.W.callWith_K0 I.kIn hk ?_
    have w : spP X.K n l fn [] H Q E0 := w
    rw [B.K] at w
    exact run_fng B G hj hb I .nil w
  · obtain ⟨C, F, fp, τ, ps, τ', hio, R, e, q⟩ := call_open w
    cases e
    exact q F fp H [] R (Same.refl _) rfl
end
end Pf

/-! Pf10: stores in place, displays of new lists, parallel stores, comprehensions, all by a context's card. -/
namespace Pf
open PySem PySem.Spec PyProof.Rows L2

/-! ### xs[i] = v, xs[i] op= v -/
def intOf : Option OV → Option Int
  | some (.fz (.int k)) => some k
  | _ => none
theorem intOf_ok {o : Option OV} {k : Int} (h : intOf o = some k) : o = some (.fz (.int k)) := by
  unfold intOf at h
  split at h
  · cases h; rfl
  · cases h
/-- the list in slot i, the k-th item otherwise -/
def setAt (i : Nat) (k : Int) (d : D) (τ : T) : Res T := match slotAt τ i with
  | some (.ls xs) => match ixN xs.length k with
    | some j => match xs[j]? with
      | some (.fz _) => .ok (τ.set i (some (.ls (xs.set j (.fz d)))))
      | _ => .bad
    | none => .bad
  | _ => .bad
def stS (io : List Nat) (f fo fi : FP) : FS := fun τ => (f τ).bind fun (p, τ1) => (settle io p τ1).bind fun (d, τ2) => (fo τ2).bind fun (q, τ3) => match q with
  | .sl i => (fi τ3).bind fun (r, τ4) => match intOf (vw τ4 (opd r)) with
    | some k => (setAt i k d τ4).bind fun τ5 => .ok (.nx, τ5)
    | none => .bad
  | _ => .bad
theorem Owns.setFz {K : PySem.W.Frag} {F H : Hp} {d d0 : D} {v : V} (r : Rep K F d v) : ∀ {os : List OV} {vs : List V} {bs : List Addr} {j : Nat}, Owns K F H os vs bs → os[j]? = some (.fz d0) → Owns K F H (os.set j (.fz d)) (vs.set j v) bs
  | [], _, _, _, _, e => by simp at e
  | x :: xs, vs, bs, 0, h, e => by
    rw [Owns] at h
    obtain ⟨w, ws, b1, b2, rfl, rfl, q, qs, m⟩ := h
    simp at e; subst e
    rw [Own.fz_iff] at q
    rw [List.set_cons_zero, List.set_cons_zero, Owns]
    exact ⟨v, ws, b1, b2, rfl, rfl, by rw [q.1]; exact Own.of_rep r, qs, m⟩
  | x :: xs, vs, bs, j + 1, h, e => by
    rw [Owns] at h
    obtain ⟨w, ws, b1, b2, rfl, rfl, q, qs, m⟩ := h
    rw [List.set_cons_succ, List.set_cons_succ, Owns]
    exact ⟨w, ws.set j v, b1, b2, rfl, rfl, q, Owns.setFz r qs (by simpa using e), m⟩
section
variable {X : Cx} {io : List Nat} {pos tpos : Pos} {e eo ei : Expr} {f fo fi : FP}
theorem setAt_ok {K : PySem.W.Frag} {C : Fx} {F : Hp} {fp : Nat → List Addr} {τ τ' : T} {σ : L2.St} {H : Hp} {i : Nat} {k : Int} {d : D} {v w : V} (R : Rel K C F fp τ σ H) (r : Rep K F d v) (hw : σ[i]? = some (some w)) (e : setAt i k d τ = .ok τ') :
    ∃ p xs j, w = .ref p ∧ H p = some (.lst xs) ∧ ixN xs.length k = some j ∧ Rel K C F fp τ' σ (upd H p (.lst (xs.set j v))) := by
  unfold setAt at e
  split at e
  · rename_i xs hs
    split at e
    · rename_i j hj
      split at e
      · rename_i d0 hd
        cases e
        obtain ⟨a, vs, bs, e1, e2, hH, n, rs⟩ := R.listSlot hs
        rw [e1] at hw
        cases hw
        refine ⟨a, vs, j, rfl, hH, by rw [← rs.length]; exact hj, ?_⟩
        exact R.write hs e2 (rs.setFz r hd) n e1
      · cases e
    · cases e
  · cases e
theorem st_open {D : Ends} {σ : L2.St} {H : Hp} (h : rdS X.K io (stS io f fo fi) D σ H) : tAsg (rdP X.K io f) (gSub (rdP X.K io fo) (rdP X.K io fi) rSetL) D σ H := by
  obtain ⟨C, F, fp, τ, fl, τ', hio, R, e, q⟩ := h
  obtain ⟨⟨p, τ1⟩, e1, e⟩ := Res.bind_ok e
  obtain ⟨⟨d, τ2⟩, e2, e⟩ := Res.bind_ok e
  obtain ⟨⟨q2, τ3⟩, e3, e⟩ := Res.bind_ok e
  refine ⟨C, F, fp, τ, p, τ1, hio, R, e1, fun F1 fp1 H1 v R1 s1 w1 => ?_⟩
  obtain ⟨F2, fp2, R2, s2, t⟩ := R1.settle hio w1 e2
  refine ⟨C, F2, fp2, τ2, q2, τ3, hio, R2, e3, fun F3 fp3 H3 o R3 s3 w3 => ?_⟩
  cases q2 with
  | val r => cases e
  | sl i =>
    obtain ⟨⟨r, τ4⟩, e4, e⟩ := Res.bind_ok e
    refine ⟨C, F3, fp3, τ3, r, τ4, hio, R3, e4, fun F4 fp4 H4 y R4 s4 w4 => ?_⟩
    obtain ⟨F5, R5, s5, w5⟩ := R4.opd w4
    dsimp only at e
    cases hk : intOf (vw τ4 (opd r)) with
    | none => rw [hk] at e; cases e
    | some k =>
      rw [hk] at e
      obtain ⟨τ5, e5, e6⟩ := Res.bind_ok e
      cases e6
      have hy := (R5.vw w5 (intOf_ok hk)).int
      obtain ⟨a, xs, j, ea, hH, hj, R6⟩ := setAt_ok R5 (t.mono ((s3.trans s4).trans s5)) w3 e5
      exact ⟨a, xs, k, j, ea, hy, hH, hj, q F5 fp4 σ _ R6 ((((s1.trans s2).trans s3).trans s4).trans s5)⟩
theorem xs_st (hc : isComp e = false) (hw : swappedStores [.Subscript eo ei tpos] e X.env = pure none) (hx : noSlice ei = true) (he : XP X io e f) (ho : XP X io eo fo) (hi : XP X io ei fi) : XS X io (.Assign [.Subscript eo ei tpos] e pos) (stS io f fo fi) := by
  refine ps_weak (ps_asg he (pg_sub ho hi set_list ?_) (swaps_no (t := some (.Subscript eo ei tpos)) (l := pos.line) (env := X.env) hc) hw rfl) fun _ _ _ h => st_open h
  intro v
  cases ei <;> first | rfl | (exact absurd hx (by simp [noSlice]))
/-- the item k of the list in slot i, an int -/
def intAt (i : Nat) (k : Int) (τ : T) : Option Int := match slotAt τ i with
  | some (.ls xs) => intOf (atI xs k)
  | _ => none
def augS (fo fi g : FP) (op : Int → Int → Int) : FS := fun τ => (fo τ).bind fun (q, τ1) => match q with
  | .sl i => (fi τ1).bind fun (r, τ2) => match intOf (vw τ2 (opd r)) with
    | some k => match intAt i k τ2 with
      | some a => (g τ2).bind fun (p, τ3) => match intOf (vw τ3 (opd p)) with
        | some b => (setAt i k (.int (op a b)) τ3).bind fun τ4 => .ok (.nx, τ4)
        | none => .bad
      | none => .bad
    | none => .bad
  | _ => .bad
def getL (K : PySem.W.Frag) : V → V → Hp → VK → Prop := fun o i H Q => ∃ p xs k v, o = .ref p ∧ i = .int k ∧ SqL K H p xs ∧ atI xs k = some v ∧ Q v H
theorem pget_list : PGet X (getL X.K) := by
  intro pins s σ H o i ov iv Q I ro ri ⟨p, xs, k, z, e1, e2, hq, he, q⟩
  subst e1 e2
  cases ro
  obtain ⟨t, rfl⟩ := ri
  obtain ⟨its, r, pl, hz⟩ := I.list hq
  obtain ⟨j, h1, h2, h3, h4, h5⟩ := atI_get he
  obtain ⟨w, ew, rw'⟩ := r.get h2
  have hl := r.length
  have hn := line63
  by_cases h0 : 0 ≤ k
  · have hj : k.toNat = j := by
      rw [seqIndex_of h0 h5] at h1
      exact Option.some.inj h1
    exact wpAny_getItem_list pl.isList h0 (by omega) (by rw [hj]; simpa using ew) ⟨z, H, I, rw', q⟩
  · have hj : (k + (its.toArray.size : Int)).toNat = j := by
      rw [seqIndex_neg (by omega) h4] at h1
      rw [List.size_toArray, ← hl]
      exact Option.some.inj h1
    exact wpAny_getItem_list_neg pl.isList (by omega) (by rw [List.size_toArray] <;> omega) (by omega) (by rw [hj]; simpa using ew) ⟨z, H, I, rw', q⟩
theorem intAt_ok {K : PySem.W.Frag} {C : Fx} {F : Hp} {fp : Nat → List Addr} {τ : T} {σ : L2.St} {H : Hp} {i : Nat} {k a : Int} {w : V} (R : Rel K C F fp τ σ H) (hw : σ[i]? = some (some w)) (e : intAt i k τ = some a) : ∃ p xs, w = .ref p ∧ SqL K H p xs ∧ atI xs k = some (.int a) := by
  unfold intAt at e
  split at e
  · rename_i xs hs
    obtain ⟨p, vs, bs, e1, e2, hH, n, rs⟩ := R.listSlot hs
    rw [e1] at hw
    cases hw
    obtain ⟨j, ej, ej2⟩ := atI_len rs.length (intOf_ok e)
    obtain ⟨z, bs', ez, rz⟩ := rs.get ej
    rw [Own.fz_iff] at rz
    have hz := rz.2
    rw [Rep] at hz
    exact ⟨p, vs, rfl, SqL.of hH, by rw [ej2, ez, hz]⟩
  · cases e
theorem aug_open {g : FP} {op : Int → Int → Int} {D : Ends} {σ : L2.St} {H : Hp} (h : rdS X.K io (augS fo fi g op) D σ H) : tAugS (rdP X.K io fo) (rdP X.K io fi) (rdP X.K io g) (getL X.K) (ipI op) rSetL D σ H := by
  obtain ⟨C, F, fp, τ, fl, τ', hio, R, e, q⟩ := h
  obtain ⟨⟨q1, τ1⟩, e1, e⟩ := Res.bind_ok e
  refine ⟨C, F, fp, τ, q1, τ1, hio, R, e1, fun F1 fp1 H1 o R1 s1 w1 => ?_⟩
  cases q1 with
  | val r => cases e
  | sl i =>
    obtain ⟨⟨r, τ2⟩, e2, e⟩ := Res.bind_ok e
    refine ⟨C, F1, fp1, τ1, r, τ2, hio, R1, e2, fun F2 fp2 H2 y R2 s2 w2 => ?_⟩
    obtain ⟨F3, R3, s3, w3⟩ := R2.opd w2
    dsimp only at e
    cases hk : intOf (vw τ2 (opd r)) with
    | none => rw [hk] at e; cases e
    | some k =>
      rw [hk] at e
      dsimp only at e
      have hy := (R3.vw w3 (intOf_ok hk)).int
      cases ha : intAt i k τ2 with
      | none => rw [ha] at e; cases e
      | some a =>
        rw [ha] at e
        obtain ⟨⟨p, τ3⟩, e4, e⟩ := Res.bind_ok e
        obtain ⟨b, xs, eb, hq, hv⟩ := intAt_ok R3 w1 ha
        refine ⟨b, xs, k, _, eb, hy, hq, hv, C, F3, fp2, τ2, p, τ3, hio, R3, e4, fun F4 fp4 H4 z R4 s4 w4 => ?_⟩
        obtain ⟨F5, R5, s5, w5⟩ := R4.opd w4
        dsimp only at e
        cases hb : intOf (vw τ3 (opd p)) with
        | none => rw [hb] at e; cases e
        | some c =>
          rw [hb] at e
          obtain ⟨τ4, e5, e6⟩ := Res.bind_ok e
          cases e6
          have hz := (R5.vw w5 (intOf_ok hb)).int
          obtain ⟨a', xs', j, ea, hH, hj, R6⟩ := setAt_ok (v := .int (op a c)) R5 (by rw [Rep]) w1 e5
          exact ⟨a, c, rfl, hz, a', xs', k, j, ea, hy, hH, hj, q F5 fp4 σ _ R6 ((((s1.trans s2).trans s3).trans s4).trans s5)⟩
theorem xs_augIx {eg : Expr} {g : FP} {o : Operator} {op : Int → Int → Int} (hp : PIp X o (ipI op)) (hx : noSlice ei = true) (ho : XP X io eo fo) (hi : XP X io ei fi) (hg : XP X io eg g) : XS X io (.AugAssign (.Subscript eo ei tpos) o eg pos) (augS fo fi g op) := by
  refine ps_weak (ps_augS ho hi pget_list hg hp set_list ?_) fun _ _ _ h => aug_open h
  intro ov iv new
  cases ei <;> first | rfl | (exact absurd hx (by simp [noSlice]))
/-- x op= e, ints -/
def augN (io : List Nat) (i : Nat) (g : FP) (op : Int → Int → Int) : FS := fun τ => match intOf (slotAt τ i) with
  | some a => (g τ).bind fun (p, τ1) => match intOf (vw τ1 (opd p)) with
    | some b => (putS io i (.fz (.int (op a b))) τ1).bind fun τ2 => .ok (.nx, τ2)
    | none => .bad
  | none => .bad
theorem augN_open {i : Nat} {g : FP} {op : Int → Int → Int} {D : Ends} {σ : L2.St} {H : Hp} (h : rdS X.K io (augN io i g op) D σ H) : tAug i (rdP X.K io g) (ipI op) D σ H := by
  obtain ⟨C, F, fp, τ, fl, τ', hio, R, e, q⟩ := h
  unfold augN at e
  cases ha : intOf (slotAt τ i) with
  | none => rw [ha] at e; cases e
  | some a =>
    rw [ha] at e
    obtain ⟨⟨p, τ1⟩, e1, e⟩ := Res.bind_ok e
    obtain ⟨v, ev, w⟩ := R.slot i _ (intOf_ok ha)
    rw [Own.fz_iff] at w
    have hv := w.2
    rw [Rep] at hv
    refine ⟨v, ev, C, F, fp, τ, p, τ1, hio, R, e1, fun F1 fp1 H1 z R1 s1 w1 => ?_⟩
    obtain ⟨F2, R2, s2, w2⟩ := R1.opd w1
    dsimp only at e
    cases hb : intOf (vw τ1 (opd p)) with
    | none => rw [hb] at e; cases e
    | some b =>
      rw [hb] at e
      obtain ⟨τ2, e2, e3⟩ := Res.bind_ok e
      cases e3
      have hz := (R2.vw w2 (intOf_ok hb)).int
      obtain ⟨R3, as, t⟩ := (grow_int R2.sub (op a b)).rel R2
      exact ⟨a, b, hv, hz, q F2 _ _ _ (R3.put hio t e2) (s1.trans s2)⟩
theorem xs_augN {i : Nat} {x : Str} {eg : Expr} {g : FP} {o : Operator} {op : Int → Int → Int} (hp : PIp X o (ipI op)) (hN : X.N.Nodup) (hi : X.N[i]? = some x) (hx : Loc X.env.scope x) (hf : X.fn x = true ∨ X.env.scope.names.lookup x = some .local) (hg : XP X io eg g) :
    XS X io (.AugAssign (.Name x tpos) o eg pos) (augN io i g op) := ps_weak (ps_aug hN hi hx hg hp hf) fun _ _ _ h => augN_open h
end

/-! ### values that are kept as they are: own lists wait -/
def PendL (H0 : Hp) (pd : List (OV × V × List Addr)) : List (OV × V × List Addr) → Prop
  | [] => True
  | t :: l => (∀ a ∈ t.2.2, H0 a = none ∧ (∀ p ∈ pd, a ∉ p.2.2) ∧ ∀ p ∈ l, a ∉ p.2.2) ∧ PendL H0 pd l
abbrev FO' := T → Res (List OV × T)
def rdL (K : PySem.W.Frag) (io : List Nat) (h : FO') : TA := fun σ H Q => ∃ C F fp τ rs τ', C.ios.map (·.1) = io ∧ Rel K C F fp τ σ H ∧ h τ = .ok (rs, τ') ∧
  ∀ F' fp' H' l, Rel K (C.pendTo (l ++ C.pend)) F' fp' τ' σ H' → Same F F' → PendL C.H0 C.pend l → l.map (·.1) = rs → Q (l.map (·.2.1)) H'
def XL (X : Cx) (io : List Nat) (es : List Expr) (h : FO') : Prop := PA X es (rdL X.K io h)
def nilL : FO' := fun τ => .ok ([], τ)
def consL (io : List Nat) (own : Bool) (f : FP) (h : FO') : FO' := fun τ => (f τ).bind fun (p, τ1) => (take io own p τ1).bind fun (r, τ2) => (h τ2).bind fun (rs, τ3) => .ok (r :: rs, τ3)
section
variable {X : Cx} {io : List Nat} {pos : Pos} {f : FP}
theorem xl_nil : XL X io [] nilL := pa_weak pa_nil fun σ H Q ⟨C, F, fp, τ, rs, τ', hio, R, e, q⟩ => by
  cases e
  exact q F fp H [] R (Same.refl _) trivial rfl
theorem PendL.weak {H0 : Hp} {pd pd' : List (OV × V × List Addr)} (h : ∀ t ∈ pd', t ∈ pd) : ∀ {l : List (OV × V × List Addr)}, PendL H0 pd l → PendL H0 pd' l
  | [], _ => trivial
  | t :: l, q => ⟨fun a ha => ⟨(q.1 a ha).1, fun p hp => (q.1 a ha).2.1 p (h p hp), (q.1 a ha).2.2⟩, PendL.weak h q.2⟩
theorem PendL.out {H0 : Hp} {pd : List (OV × V × List Addr)} {t : OV × V × List Addr} (ht : t ∈ pd) : ∀ {l : List (OV × V × List Addr)}, PendL H0 pd l → ∀ p ∈ l, ∀ a ∈ t.2.2, a ∉ p.2.2
  | [], _, p, hp, _, _ => absurd hp (by simp)
  | u :: l, q, p, hp, a, ha => by
    rcases List.mem_cons.mp hp with rfl | hp
    · exact fun z => (q.1 a z).2.1 t ht ha
    · exact PendL.out ht q.2 p hp a ha
theorem xl_cons {e : Expr} {es : List Expr} {own : Bool} {h : FO'} (hn : notStar e = true) (ha : XP X io e f) (hr : XL X io es h) : XL X io (e :: es) (consL io own f h) := by
  refine pa_weak (pa_cons ha hr (star_cons hn)) fun σ H Q hh => ?_
  obtain ⟨C, F, fp, τ, ps, τ', hio, R, e, q⟩ := hh
  obtain ⟨⟨p1, τ1⟩, e1, e⟩ := Res.bind_ok e
  obtain ⟨⟨r, τ2⟩, e2, e⟩ := Res.bind_ok e
  obtain ⟨⟨qs, τ3⟩, e3, e⟩ := Res.bind_ok e
  cases e
  refine ⟨C, F, fp, τ, p1, τ1, hio, R, e1, fun F1 fp1 H1 v R1 s1 w1 => ?_⟩
  obtain ⟨F2, fp2, as, R2, s2, t⟩ := R1.take hio w1 e2
  have RP := Rel.addPend (C := C) (l := C.pend) R2 t
  refine ⟨C.pendTo ((r, v, as) :: C.pend), F2, fp2, τ2, qs, _, hio, RP, e3, fun F3 fp3 H3 l R3 s3 pl el => ?_⟩
  have hd := pl.out (t := (r, v, as)) List.mem_cons_self
  refine q F3 fp3 H3 ((r, v, as) :: l) ?_ ((s1.trans s2).trans s3) ⟨fun a ha => ⟨(t.new a ha).2, fun p hp => t.free a ha p hp, fun p hp => hd p hp a ha⟩, pl.weak fun p hp => List.mem_cons_of_mem _ hp⟩ (by rw [List.map_cons, el])
  exact Rel.repend (C := C) R3 fun p hp => R3.pend p (by
    show p ∈ l ++ (r, v, as) :: C.pend
    rcases List.mem_cons.mp hp with rfl | hp
    · exact List.mem_append_right _ List.mem_cons_self
    · rcases List.mem_append.mp hp with hp | hp
      · exact List.mem_append_left _ hp
      · exact List.mem_append_right _ (List.mem_cons_of_mem _ hp))
/-- several slots one behind another -/
def putL (io : List Nat) : List Nat → List OV → T → Res T
  | [], [], τ => .ok τ
  | i :: is, r :: rs, τ => (putS io i r τ).bind fun τ1 => putL io is rs τ1
  | _, _, _ => .bad
def setL (σ : L2.St) : List Nat → List V → L2.St
  | i :: is, v :: vs => setL (σ.set i (some v)) is vs
  | _, _ => σ
theorem Rel.putL {K : PySem.W.Frag} {C : Fx} (hio : C.ios.map (·.1) = io) : ∀ {is : List Nat} {l : List (OV × V × List Addr)} {F : Hp} {fp : Nat → List Addr} {τ τ' : T} {σ : L2.St} {H : Hp}, Rel K (C.pendTo (l ++ C.pend)) F fp τ σ H → PendL C.H0 C.pend l → Pf.putL io is (l.map (·.1)) τ = .ok τ' →
    is.length = l.length ∧ ∃ fp', Rel K C F fp' τ' (setL σ is (l.map (·.2.1))) H
  | [], [], F, fp, τ, τ', σ, H, R, _, e => by
    cases e
    exact ⟨rfl, fp, R⟩
  | [], _ :: _, _, _, _, _, _, _, _, _, e => by cases e
  | _ :: _, [], _, _, _, _, _, _, _, _, e => by cases e
  | i :: is, t :: l, F, fp, τ, τ', σ, H, R, pl, e => by
    obtain ⟨τ1, e1, e2⟩ := Res.bind_ok e
    have tm := Rel.unPend (C := C) (l := l ++ C.pend) R (fun a ha => (pl.1 a ha).1) fun a ha p hp => by
      rcases List.mem_append.mp hp with hp | hp
      · exact (pl.1 a ha).2.2 p hp
      · exact (pl.1 a ha).2.1 p hp
    have R1 := Rel.put (C := C.pendTo (l ++ C.pend)) hio R.dropPend tm e1
    obtain ⟨hl, fp2, R2⟩ := Rel.putL hio R1 pl.2 e2
    exact ⟨by rw [List.length_cons, List.length_cons, hl], fp2, R2⟩
/-- a, b = e1, e2: all worked out, then stored -/
def parS (io : List Nat) (is : List Nat) (h : FO') : FS := fun τ => (h τ).bind fun (rs, τ1) => (putL io is rs τ1).bind fun τ2 => .ok (.nx, τ2)
theorem par_open {is : List Nat} {h : FO'} {D : Ends} {σ : L2.St} {H : Hp} (w : rdS X.K io (parS io is h) D σ H) : rdL X.K io h σ H fun vs H1 => vs.length = is.length ∧ D.nx (setL σ is vs) H1 := by
  obtain ⟨C, F, fp, τ, fl, τ', hio, R, e, q⟩ := w
  obtain ⟨⟨rs, τ1⟩, e1, e⟩ := Res.bind_ok e
  obtain ⟨τ2, e2, e⟩ := Res.bind_ok e
  cases e
  refine ⟨C, F, fp, τ, rs, τ1, hio, R, e1, fun F1 fp1 H1 l R1 s1 pl el => ?_⟩
  subst el
  obtain ⟨hl, fp2, R2⟩ := Rel.putL hio R1 pl e2
  exact ⟨by rw [List.length_map, hl], q F1 fp2 _ H1 R2 s1⟩
/-- what swappedStores says, told by the scope -/
def isStar : Expr → Bool
  | .Starred _ _ => true
  | _ => false
def swN (sc : Scope) (line : Nat) : List Expr → List Str
  | [] => []
  | .Name id pos :: ts => if sc.names.lookup id == some .local && pos.line == line then id :: swN sc line ts else swN sc line ts
  | _ :: ts => swN sc line ts
def swC (sc : Scope) (ts vs : List Expr) : Option (List Str) :=
  if (!(ts.length == 2 || ts.length == 3) || vs.length != ts.length) = true then none else
  if vs.any isStar = true then none else
  if ((swN sc ((ts.head?.map (·.pos.line)).getD 0) ts).length != ts.length || (swN sc ((ts.head?.map (·.pos.line)).getD 0) ts).eraseDups.length != (swN sc ((ts.head?.map (·.pos.line)).getD 0) ts).length) = true then none else
  if vs.all (foldedForSure 8) = true then none else some (swN sc ((ts.head?.map (·.pos.line)).getD 0) ts)
theorem swN_eq {env : Env} {line : Nat} : ∀ ts : List Expr, (ts.filterMap fun | .Name id pos => if env.kindOf id == some .local && pos.line == line then some id else none | _ => none) = swN env.scope line ts
  | [] => rfl
  | t :: ts => by
    have ih := swN_eq (env := env) (line := line) ts
    cases t with
    | Name id pos =>
      rw [List.filterMap_cons, swN]
      have hk : env.kindOf id = env.scope.names.lookup id := rfl
      simp only [hk]
      by_cases h : (env.scope.names.lookup id == some .local && pos.line == line) = true
      · simp only [h, if_true, ← ih]
      · simp only [h, if_false, ← ih, Bool.false_eq_true]
    | _ => exact ih
theorem swapped_by {env : Env} {ts vs : List Expr} {kt k2 : Nat} {pt pt2 : Pos} (hk : env.scope.kind = .function) (hca : (!(vs.all (constantsAlone 8)) || vs.all (foldedForSure 8)) = true) : swappedStores [.Tuple ts kt pt] (.Tuple vs k2 pt2) env = pure (swC env.scope ts vs) := by
  have hb : env.blockKind = .function := by unfold Env.blockKind; rw [hk]; rfl
  unfold swappedStores swC
  simp only [hb]
  generalize hv : List.any vs _ = b2
  have hv2 : b2 = vs.any isStar := by
    rw [← hv]
    congr 1
  rw [← hv2]
  generalize hn : List.filterMap _ ts = names
  have hn2 : names = swN env.scope ((ts.head?.map (·.pos.line)).getD 0) ts := by
    rw [← hn]
    exact swN_eq ts
  rw [← hn2]
  have hbb : (ScopeKind.function != ScopeKind.function) = false := by decide
  by_cases h1 : (!(ts.length == 2 || ts.length == 3) || vs.length != ts.length) = true
  · simp only [h1, Bool.true_or, if_true]
  · have h1' : (!(ts.length == 2 || ts.length == 3) || vs.length != ts.length) = false := by simpa using h1
    by_cases h2 : b2 = true
    · simp only [h1', h2, Bool.false_or, hbb, Bool.false_eq_true, if_false, if_true]
    · have h2' : b2 = false := by simpa using h2
      by_cases h3 : (names.length != ts.length || names.eraseDups.length != names.length) = true
      · simp only [h1', h2', h3, Bool.false_or, hbb, Bool.false_eq_true, if_false, if_true]
      · have h3' : (names.length != ts.length || names.eraseDups.length != names.length) = false := by simpa using h3
        by_cases h4 : vs.all (foldedForSure 8) = true
        · simp only [h1', h2', h3', h4, Bool.false_or, hbb, Bool.false_eq_true, if_false, if_true]
        · have h4' : vs.all (foldedForSure 8) = false := by simpa using h4
          have h5 : vs.all (constantsAlone 8) = false := by
            rw [h4', Bool.or_false] at hca
            simpa using hca
          simp only [h1', h2', h3', h4', h5, Bool.false_or, hbb, Bool.false_eq_true, if_false, if_true]
end
end Pf

/-! Pf11: the rules by a context's card, side conditions as truths; the head. -/
namespace Pf
open PySem PySem.Spec PyProof.Rows L2

def visB (sc : Scope) (x : Str) : Bool := match sc.names.lookup x with
  | some .local => true
  | some .cell => true
  | some .free => true
  | _ => false
theorem visB_ok {sc : Scope} {x : Str} (h : visB sc x = true) : Vis sc x := by
  unfold visB at h
  split at h
  · exact .inl (by assumption)
  · exact .inr (.inl (by assumption))
  · exact .inr (.inr (by assumption))
  · cases h
def slotC (N : List Str) (sc : Scope) (i : Nat) (x : Str) : Bool := decide (N[i]? = some x) && (visB sc x && (!(x == ("__debug__" : Str)) && !(x == ("__classdict__" : Str))))
def locC (N : List Str) (sc : Scope) (fb : Str → Bool) (i : Nat) (x : Str) : Bool := decide (N[i]? = some x) && ((sc.names.lookup x == some .local) || ((sc.names.lookup x == some .cell) && fb x))
def gloC (sc : Scope) (x : Str) : Bool := (sc.names.lookup x == some .globalImplicit) && !(x == ("__debug__" : Str))
def freeC (sc : Scope) (x : Str) : Bool := gloC sc x && !(x == ("__name__" : Str))
def Cd.blk (c : Cd) (scope : Scope) : Cd := { c with sc := relS scope c.sc, fb := fun x => scope.names.lookup x == some .cell }
theorem beq_no {x y : Str} (h : (x == y) = false) : x ≠ y := fun e => by subst e; simp at h
section
variable {X : Cx} {c : Cd} {k : Nat} {io : List Nat} {pos : Pos} {a b e : Expr} {f g fc : FP}
theorem Bd.units (B : Bd X c k) : X.A.units + 65 < cLine := by have := B.room.un; omega
theorem Bd.blk (B : Bd X c k) (s : Shared) (H : Hp) (scope : Scope) (cl : List (Str × Addr)) (C : Addr) (fp : List Addr) : Bd (X.blk s H scope (compEnvC scope cl C X.env) fp) (c.blk scope) k :=
  ⟨B.prog, B.w, B.K, B.mg, B.base, B.N, by show relS scope X.env.scope = relS scope c.sc; rw [B.sc], rfl, B.calm, B.guards, B.room, rfl, B.nd⟩
theorem Bd.down (B : Bd X c k) {j : Nat} (h : j ≤ k) : Bd X c j := ⟨B.prog, B.w, B.K, B.mg, B.base, B.N, B.sc, B.fb, B.calm, B.guards, B.room.mono h, B.nox, B.nd⟩
theorem Bd.vis (B : Bd X c k) {x : Str} (h : visB c.sc x = true) : Vis X.env.scope x := by rw [B.sc]; exact visB_ok h
theorem Bd.slot (B : Bd X c k) {i : Nat} {x : Str} (h : slotC c.N c.sc i x = true) : XP X io (.Name x pos) (eSlot i) := by
  unfold slotC at h
  simp only [Bool.and_eq_true, decide_eq_true_eq, Bool.not_eq_true'] at h
  exact xp_slot (by rw [B.N]; exact h.1) (B.vis h.2.1) h.2.2.1 h.2.2.2
theorem Bd.locs (B : Bd X c k) {i : Nat} {x : Str} (h : locC c.N c.sc c.fb i x = true) : X.N.Nodup ∧ X.N[i]? = some x ∧ Loc X.env.scope x ∧ (X.fn x = true ∨ X.env.scope.names.lookup x = some .local) := by
  unfold locC at h
  simp only [Bool.and_eq_true, decide_eq_true_eq, Bool.or_eq_true, beq_iff_eq] at h
  obtain ⟨h1, h2⟩ := h
  refine ⟨by rw [B.N]; exact B.nd, by rw [B.N]; exact h1, ?_, ?_⟩
  · rw [B.sc]
    exact h2.imp id fun z => z.1
  · rw [B.sc, B.fb]
    exact h2.elim .inr fun z => .inl z.2
theorem Bd.glo (B : Bd X c k) {x : Str} (h : gloC c.sc x = true) : Gl X x ∧ (x == ("__debug__" : Str)) = false := by
  unfold gloC at h
  simp only [Bool.and_eq_true, beq_iff_eq, Bool.not_eq_true'] at h
  exact ⟨by show X.env.scope.names.lookup x = _; rw [B.sc]; exact h.1, h.2⟩
theorem Bd.bltn (B : Bd X c k) {x : Str} {v : Value} (h : freeC c.sc x = true) (hm : c.mg x = none) (hv : bootBuiltins x = some v) : Bltn X x v := by
  unfold freeC at h
  rw [Bool.and_eq_true] at h
  obtain ⟨g1, g2⟩ := B.glo h.1
  refine ⟨g1, by rw [B.mg]; exact hm, hv, ?_, g2⟩
  exact beq_no (by simpa using h.2)
theorem Bd.call (B : Bd X c k) {j n : Nat} {x : Str} {l : List Nat} {fn : FV} {h : FA} {es : List Expr} {p : Pos} (cl : Cal c j x n l fn) (hj : j ≤ k) (hg : gloC c.sc x = true) (hn : (e :: es).all notStar = true) (ha : XA X io (e :: es) h) :
    XP X io (.Call (.Name x p) (e :: es) [] pos) (callF n l fn h) := xp_call B cl hj (B.glo hg).1 (B.glo hg).2 hn ha
theorem Bd.call0 (B : Bd X c k) {j n : Nat} {x : Str} {l : List Nat} {fn : FV} {p : Pos} (cl : Cal c j x n l fn) (hj : j ≤ k) (hg : gloC c.sc x = true) : XP X io (.Call (.Name x p) [] [] pos) (callF n l fn nilA) := xp_call0 B cl hj (B.glo hg).1 (B.glo hg).2
theorem Cal.blk {j n : Nat} {x : Str} {l : List Nat} {fn : FV} (cl : Cal c j x n l fn) (scope : Scope) : Cal (c.blk scope) j x n l fn := ⟨cl.ex⟩
theorem Cal.up {i j n : Nat} {x : Str} {l : List Nat} {fn : FV} (cl : Cal c i x n l fn) (h : i ≤ j) : Cal c j x n l fn := by
  obtain ⟨f, fd, ps, G, q⟩ := cl.ex
  exact ⟨f, fd, ps, G.up h, q⟩
/-! operators -/
theorem Bd.eq (B : Bd X c k) (ha : XP X io a f) (hb : XP X io b g) : XP X io (.Compare a [.Eq] [b] pos) (two f g eqS) := xp_cmp (os_eq B.units) (nomark b) ha hb
theorem Bd.ne (B : Bd X c k) (ha : XP X io a f) (hb : XP X io b g) : XP X io (.Compare a [.NotEq] [b] pos) (two f g neS) := xp_cmp (os_ne B.units) (nomark b) ha hb
theorem Bd.lt (B : Bd X c k) (ha : XP X io a f) (hb : XP X io b g) : XP X io (.Compare a [.Lt] [b] pos) (two f g ltS) := xp_cmp (os_lt B.units) (nomark b) ha hb
theorem Bd.gt (B : Bd X c k) (ha : XP X io a f) (hb : XP X io b g) : XP X io (.Compare a [.Gt] [b] pos) (two f g gtS) := xp_cmp (os_gt B.units) (nomark b) ha hb
theorem Bd.le (B : Bd X c k) (ha : XP X io a f) (hb : XP X io b g) : XP X io (.Compare a [.LtE] [b] pos) (two f g leS) := xp_cmp (os_le B.units) (nomark b) ha hb
theorem Bd.ge (B : Bd X c k) (ha : XP X io a f) (hb : XP X io b g) : XP X io (.Compare a [.GtE] [b] pos) (two f g geS) := xp_cmp (os_ge B.units) (nomark b) ha hb
theorem Bd.is (B : Bd X c k) (ha : XP X io a f) (hb : XP X io b g) : XP X io (.Compare a [.Is] [b] pos) (two f g isS) := xp_cmp os_is (nomark b) ha hb
theorem Bd.isnot (B : Bd X c k) (ha : XP X io a f) (hb : XP X io b g) : XP X io (.Compare a [.IsNot] [b] pos) (two f g isnotS) := xp_cmp os_isnot (nomark b) ha hb
theorem Bd.mem (B : Bd X c k) (hm : behindInMarks .In b = false) (ha : XP X io a f) (hb : XP X io b g) : XP X io (.Compare a [.In] [b] pos) (two f g (memS false)) := xp_cmp (os_mem B.units false) hm ha hb
theorem Bd.nmem (B : Bd X c k) (hm : behindInMarks .NotIn b = false) (ha : XP X io a f) (hb : XP X io b g) : XP X io (.Compare a [.NotIn] [b] pos) (two f g (memS true)) := xp_cmp (os_mem B.units true) hm ha hb
theorem gd_bl {b c : Bool} {r : OV} (h : gd b (.fz (.bl c)) = .ok r) : ∃ d, r = .fz (.bl d) := by
  obtain ⟨_, e⟩ := gd_ok h
  exact ⟨_, e.symm⟩
theorem memS_bl {n : Bool} (x y r : OV) (h : memS n x y = .ok r) : ∃ d, r = .fz (.bl d) := by
  unfold memS at h
  split at h
  · cases h; exact ⟨_, rfl⟩
  · split at h
    · exact gd_bl h
    · cases h
theorem Bd.teq (B : Bd X c k) (ha : XP X io a f) (hb : XP X io b g) : XT X io (.Compare a [.Eq] [b] pos) (tru (two f g eqS)) := xt_cmp (os_eq B.units) (fun _ _ _ h => gd_bl h) (nomark b) ha hb
theorem Bd.tne (B : Bd X c k) (ha : XP X io a f) (hb : XP X io b g) : XT X io (.Compare a [.NotEq] [b] pos) (tru (two f g neS)) := xt_cmp (os_ne B.units) (fun _ _ _ h => gd_bl h) (nomark b) ha hb
theorem Bd.tlt (B : Bd X c k) (ha : XP X io a f) (hb : XP X io b g) : XT X io (.Compare a [.Lt] [b] pos) (tru (two f g ltS)) := xt_cmp (os_lt B.units) (fun _ _ _ h => gd_bl h) (nomark b) ha hb
theorem Bd.tgt (B : Bd X c k) (ha : XP X io a f) (hb : XP X io b g) : XT X io (.Compare a [.Gt] [b] pos) (tru (two f g gtS)) := xt_cmp (os_gt B.units) (fun _ _ _ h => gd_bl h) (nomark b) ha hb
theorem Bd.tle (B : Bd X c k) (ha : XP X io a f) (hb : XP X io b g) : XT X io (.Compare a [.LtE] [b] pos) (tru (two f g leS)) := xt_cmp (os_le B.units) (fun _ _ _ h => gd_bl h) (nomark b) ha hb
theorem Bd.tge (B : Bd X c k) (ha : XP X io a f) (hb : XP X io b g) : XT X io (.Compare a [.GtE] [b] pos) (tru (two f g geS)) := xt_cmp (os_ge B.units) (fun _ _ _ h => gd_bl h) (nomark b) ha hb
theorem Bd.tis (B : Bd X c k) (ha : XP X io a f) (hb : XP X io b g) : XT X io (.Compare a [.Is] [b] pos) (tru (two f g isS)) := xt_cmp os_is (fun _ _ _ h => gd_bl h) (nomark b) ha hb
theorem Bd.tisnot (B : Bd X c k) (ha : XP X io a f) (hb : XP X io b g) : XT X io (.Compare a [.IsNot] [b] pos) (tru (two f g isnotS)) := xt_cmp os_isnot (fun _ _ _ h => gd_bl h) (nomark b) ha hb
theorem Bd.tmem (B : Bd X c k) (hm : behindInMarks .In b = false) (ha : XP X io a f) (hb : XP X io b g) : XT X io (.Compare a [.In] [b] pos) (tru (two f g (memS false))) := xt_cmp (os_mem B.units false) memS_bl hm ha hb
theorem Bd.tnmem (B : Bd X c k) (hm : behindInMarks .NotIn b = false) (ha : XP X io a f) (hb : XP X io b g) : XT X io (.Compare a [.NotIn] [b] pos) (tru (two f g (memS true))) := xt_cmp (os_mem B.units true) memS_bl hm ha hb
/-! what is called -/
section
variable {p : Pos} {es : List Expr} {h : FA} (B : Bd X c k)
include B
theorem Bd.len (hg : freeC c.sc "len" = true) (hm : c.mg "len" = none) (hs : (e :: es).all notStar = true) (ha : XA X io (e :: es) h) : XP X io (.Call (.Name "len" p) (e :: es) [] pos) (biF h lenS) := xp_callB (B.bltn hg hm rfl) cs_len hs ha
theorem Bd.int (hg : freeC c.sc "int" = true) (hm : c.mg "int" = none) (hs : (e :: es).all notStar = true) (ha : XA X io (e :: es) h) : XP X io (.Call (.Name "int" p) (e :: es) [] pos) (biF h intS) := xp_callTy (B.bltn hg hm rfl) cs_int hs ha
theorem Bd.abs (hg : freeC c.sc "abs" = true) (hm : c.mg "abs" = none) (hs : (e :: es).all notStar = true) (ha : XA X io (e :: es) h) : XP X io (.Call (.Name "abs" p) (e :: es) [] pos) (biF h absS) := xp_callB (B.bltn hg hm rfl) cs_abs hs ha
theorem Bd.max (hg : freeC c.sc "max" = true) (hm : c.mg "max" = none) (hs : (e :: es).all notStar = true) (ha : XA X io (e :: es) h) : XP X io (.Call (.Name "max" p) (e :: es) [] pos) (biF h maxS) := xp_callB (B.bltn hg hm rfl) (cs_max B.calm) hs ha
theorem Bd.min (hg : freeC c.sc "min" = true) (hm : c.mg "min" = none) (hs : (e :: es).all notStar = true) (ha : XA X io (e :: es) h) : XP X io (.Call (.Name "min" p) (e :: es) [] pos) (biF h minS) := xp_callB (B.bltn hg hm rfl) (cs_min B.calm) hs ha
theorem Bd.sum (hg : freeC c.sc "sum" = true) (hm : c.mg "sum" = none) (hs : (e :: es).all notStar = true) (ha : XA X io (e :: es) h) : XP X io (.Call (.Name "sum" p) (e :: es) [] pos) (biF h sumS) := xp_callB (B.bltn hg hm rfl) (cs_sum B.calm) hs ha
theorem Bd.all (hg : freeC c.sc "all" = true) (hm : c.mg "all" = none) (hs : (e :: es).all notStar = true) (ha : XA X io (e :: es) h) : XP X io (.Call (.Name "all" p) (e :: es) [] pos) (biF h (allS true)) := xp_callB (B.bltn hg hm rfl) (cs_all B.calm true) hs ha
theorem Bd.any (hg : freeC c.sc "any" = true) (hm : c.mg "any" = none) (hs : (e :: es).all notStar = true) (ha : XA X io (e :: es) h) : XP X io (.Call (.Name "any" p) (e :: es) [] pos) (biF h (allS false)) := xp_callB (B.bltn hg hm rfl) (cs_all B.calm false) hs ha
theorem Bd.tuple (hg : freeC c.sc "tuple" = true) (hm : c.mg "tuple" = none) (hs : (e :: es).all notStar = true) (ha : XA X io (e :: es) h) : XP X io (.Call (.Name "tuple" p) (e :: es) [] pos) (biF h tupS) := xp_callTy (B.bltn hg hm rfl) cs_tuple hs ha
theorem Bd.list (hg : freeC c.sc "list" = true) (hm : c.mg "list" = none) (hs : (e :: es).all notStar = true) (ha : XA X io (e :: es) h) : XP X io (.Call (.Name "list" p) (e :: es) [] pos) (biF h lstS) := xp_callTy (B.bltn hg hm rfl) cs_list hs ha
theorem Bd.repr (hg : freeC c.sc "repr" = true) (hm : c.mg "repr" = none) (hs : (e :: es).all notStar = true) (ha : XA X io (e :: es) h) : XP X io (.Call (.Name "repr" p) (e :: es) [] pos) (biF h reprS) := xp_callB (B.bltn hg hm rfl) (cs_repr B.units B.guards) hs ha
theorem Bd.range1 {tg a : Expr} (hg : gloC c.sc "range" = true) (hm : c.mg "range" = none) (hn : [a].all notStar = true) (ha : XA X io [a] h) : XI X io tg (.Call (.Name "range" p) [a] [] pos) (rngF range1S h) := xi_range1 (B.glo hg).1 (by rw [B.mg]; exact hm) hn ha
theorem Bd.range2 {tg a b : Expr} (hg : gloC c.sc "range" = true) (hm : c.mg "range" = none) (hn : [a, b].all notStar = true) (ha : XA X io [a, b] h) : XI X io tg (.Call (.Name "range" p) [a, b] [] pos) (rngF range2S h) := xi_range2 (B.glo hg).1 (by rw [B.mg]; exact hm) hn ha
theorem Bd.range3 {tg a b d : Expr} (hg : gloC c.sc "range" = true) (hm : c.mg "range" = none) (hn : [a, b, d].all notStar = true) (ha : XA X io [a, b, d] h) : XI X io tg (.Call (.Name "range" p) [a, b, d] [] pos) (rngF range3S h) := xi_range3 (B.glo hg).1 (by rw [B.mg]; exact hm) hn ha
theorem Bd.enum {a : Expr} {tpos : Pos} {elts : List Expr} {kk : Nat} (hg : gloC c.sc "enumerate" = true) (hm : c.mg "enumerate" = none) (hn : [a].all notStar = true) (ha : XA X io [a] h) :
    XI X io (.Tuple elts kk tpos) (.Call (.Name "enumerate" p) [a] [] pos) (rngF (datL (enumL 0)) h) := xi_enum (B.glo hg).1 (by rw [B.mg]; exact hm) hn ha
theorem Bd.zip {a b : Expr} {tpos : Pos} {elts : List Expr} {kk : Nat} (hg : gloC c.sc "zip" = true) (hm : c.mg "zip" = none) (hn : [a, b].all notStar = true) (ha : XA X io [a, b] h) :
    XI X io (.Tuple elts kk tpos) (.Call (.Name "zip" p) [a, b] [] pos) (rngF zip2S h) := xi_zip (B.glo hg).1 (by rw [B.mg]; exact hm) hn ha
end
/-! statements -/
theorem Bd.set (B : Bd X c k) {i : Nat} {x : Str} {p' : Pos} {own : Bool} (h : locC c.N c.sc c.fb i x = true) (hc : isComp e = false) (ha : XP X io e f) : XS X io (.Assign [.Name x p'] e pos) (setS io i own f) :=
  let ⟨h1, h2, h3, h4⟩ := B.locs h
  xs_set h1 h2 h3 h4 (swaps_no hc) ha
theorem Bd.gname (B : Bd X c k) {i : Nat} {x : Str} (h : locC c.N c.sc c.fb i x = true) : XG X io [i] (.Name x pos) (nameG io i) :=
  let ⟨h1, h2, h3, h4⟩ := B.locs h
  xg_name h1 h2 h3 h4
theorem Bd.gtup (B : Bd X c k) {es : List Expr} {kk : Nat} {h : FGs} {vs : List Nat} (hn : es.all notStar = true) (hs : XGs X io vs es h) : XG X io vs (.Tuple es kk pos) (tupG es.length h) := xg_tup B.calm hn hs
theorem Bd.while_ (B : Bd X c k) {body : List Stmt} {g : FS} (hc : XT X io e (tru fc)) (hb : XB X io body g) : XS X io (.While e body [] pos) (whlS fc g) := xs_while (by rw [B.nox]; exact PassesOwn.never) hc hb
theorem Bd.for_ (B : Bd X c k) {tg iter : Expr} {body : List Stmt} {hi : FI} {gt : FG} {g : FS} {vs : List Nat} (hs : ∀ x, foldedSetIterable iter X.env x = pure x) (h1 : XI X io tg iter hi) (h2 : XG X io vs tg gt) (h3 : XB X io body g) :
    XS X io (.For tg iter body [] pos) (forS hi gt g) := xs_for (by rw [B.nox]; exact PassesOwn.never) B.calm hs h1 h2 h3
theorem Bd.augN (B : Bd X c k) {i : Nat} {x : Str} {tpos : Pos} {eg : Expr} {o : Operator} {op : Int → Int → Int} (hp : PIp X o (ipI op)) (h : locC c.N c.sc c.fb i x = true) (hg : XP X io eg g) : XS X io (.AugAssign (.Name x tpos) o eg pos) (augN io i g op) :=
  let ⟨h1, h2, h3, h4⟩ := B.locs h
  xs_augN hp h1 h2 h3 h4 hg
/-- a, b = e1, e2 -/
theorem Bd.par2 (B : Bd X c k) {i j : Nat} {x y : Str} {px py pt pt2 : Pos} {kt k2 : Nat} {h : FO'} (hk : c.sc.kind = .function) (hi : decide (c.N[i]? = some x) = true) (hj : decide (c.N[j]? = some y) = true) (hij : decide (i ≠ j) = true)
    (hx : (c.sc.names.lookup x == some .local) = true) (hy : (c.sc.names.lookup y == some .local) = true) (hw : swC c.sc [.Name x px, .Name y py] [a, b] = some [x, y]) (hca : (!([a, b].all (constantsAlone 8)) || [a, b].all (foldedForSure 8)) = true) (ha : XL X io [a, b] h) :
    XS X io (.Assign [.Tuple [.Name x px, .Name y py] kt pt] (.Tuple [a, b] k2 pt2) pos) (parS io [i, j] h) := by
  have hN := B.N
  have hsc := B.sc
  refine ps_weak (ps_par B.calm (by rw [hN]; exact B.nd) (by rw [hN]; exact of_decide_eq_true hi) (by rw [hN]; exact of_decide_eq_true hj) (of_decide_eq_true hij) (by rw [hsc]; simpa using hx) (by rw [hsc]; simpa using hy) ha ?_ rfl) fun D σ H w => ?_
  · rw [swapped_by (by rw [hsc]; exact hk) hca, hsc, hw]
  · obtain ⟨C, F, fp, τ, rs, τ', hio, R, e, q⟩ := par_open w
    refine ⟨C, F, fp, τ, rs, τ', hio, R, e, fun F1 fp1 H1 l R1 s1 pl el => ?_⟩
    obtain ⟨hl, q2⟩ := q F1 fp1 H1 l R1 s1 pl el
    match l, hl, q2 with
    | [t, u], _, q2 => exact ⟨_, _, rfl, q2⟩
theorem Bd.par3 (B : Bd X c k) {i j l : Nat} {x y z : Str} {d : Expr} {px py pz pt pt2 : Pos} {kt k2 : Nat} {h : FO'} (hk : c.sc.kind = .function) (hi : decide (c.N[i]? = some x) = true) (hj : decide (c.N[j]? = some y) = true) (hl : decide (c.N[l]? = some z) = true) (hij : decide (i ≠ j ∧ i ≠ l ∧ j ≠ l) = true)
    (hx : (c.sc.names.lookup x == some .local) = true) (hy : (c.sc.names.lookup y == some .local) = true) (hz : (c.sc.names.lookup z == some .local) = true) (hw : swC c.sc [.Name x px, .Name y py, .Name z pz] [a, b, d] = some [x, y, z]) (hca : (!([a, b, d].all (constantsAlone 8)) || [a, b, d].all (foldedForSure 8)) = true) (ha : XL X io [a, b, d] h) :
    XS X io (.Assign [.Tuple [.Name x px, .Name y py, .Name z pz] kt pt] (.Tuple [a, b, d] k2 pt2) pos) (parS io [i, j, l] h) := by
  have hN := B.N
  have hsc := B.sc
  obtain ⟨n1, n2, n3⟩ := of_decide_eq_true hij
  refine ps_weak (ps_par3 B.calm (by rw [hN]; exact B.nd) (by rw [hN]; exact of_decide_eq_true hi) (by rw [hN]; exact of_decide_eq_true hj) (by rw [hN]; exact of_decide_eq_true hl) n1 n2 n3 (by rw [hsc]; simpa using hx) (by rw [hsc]; simpa using hy) (by rw [hsc]; simpa using hz) ha ?_ rfl) fun D σ H w => ?_
  · rw [swapped_by (by rw [hsc]; exact hk) hca, hsc, hw]
  · obtain ⟨C, F, fp, τ, rs, τ', hio, R, e, q⟩ := par_open w
    refine ⟨C, F, fp, τ, rs, τ', hio, R, e, fun F1 fp1 H1 l R1 s1 pl el => ?_⟩
    obtain ⟨hl, q2⟩ := q F1 fp1 H1 l R1 s1 pl el
    match l, hl, q2 with
    | [t, u, w], _, q2 => exact ⟨_, _, _, rfl, q2⟩
/-- target = e, no display on both sides that is exchanged -/
theorem Bd.asg (B : Bd X c k) {t : Expr} {g : FG} {vs : List Nat} (hn : notStar t = true) (hc : isComp e = false) (ht' : isTuple e = false) (ht : XG X io vs t g) (ha : XP X io e f) : XS X io (.Assign [t] e pos) (asgS io g f) := xs_asg hn hc (swapped_no ht') ht ha
theorem Bd.asgT (B : Bd X c k) {ts es : List Expr} {kt k2 : Nat} {pt pt2 : Pos} {g : FG} {vs : List Nat} (hk : c.sc.kind = .function) (hw : swC c.sc ts es = none) (hca : (!(es.all (constantsAlone 8)) || es.all (foldedForSure 8)) = true) (ht : XG X io vs (.Tuple ts kt pt) g) (ha : XP X io (.Tuple es k2 pt2) f) :
    XS X io (.Assign [.Tuple ts kt pt] (.Tuple es k2 pt2) pos) (asgS io g f) := xs_asg rfl rfl (by rw [swapped_by (by rw [B.sc]; exact hk) hca, B.sc, hw]) ht ha
theorem Bd.st (B : Bd X c k) {eo ei : Expr} {tpos : Pos} {fo fi : FP} (hc : isComp e = false) (hw : isTuple e = false) (hx : noSlice ei = true) (he : XP X io e f) (ho : XP X io eo fo) (hi : XP X io ei fi) : XS X io (.Assign [.Subscript eo ei tpos] e pos) (stS io f fo fi) := xs_st hc (swapped_no hw) hx he ho hi
/-! comprehensions -/
theorem Bd.comp (B : Bd X c k) {elt tg iter : Expr} {ifs : List Expr} {scope : Scope} (own : List (Str × Nat)) {h : FI} {gt : FG} {cn : T → Res (Bool × T)} {ob : Bool} {vt : List Nat} (ok : blkC c.N c.sc scope own = true) (hv : vt.all (fun i => decide (i ∈ own.map (·.2))) = true)
    (hs : ∀ x, foldedSetIterable iter X.env x = pure x) (hi : XI X io tg iter h) (hb : ∀ X', Bd X' (c.blk scope) k → XG X' io vt tg gt ∧ XTs X' io ifs cn ∧ XP X' io elt f) : XP X io (.ListComp elt [⟨tg, iter, ifs, 0⟩] scope pos) (compF io (own.map (·.2)) ob h gt cn f) := by
  refine pe_weak (pe_lc (wi := rdI X.K io h) (g := rdG X.K io vt gt) (tt := rdT X.K io cn) (te := rdP X.K io f) B.calm (by rw [B.N]; exact B.nd) hi (blkOk_by (by rw [B.N, B.sc]; exact ok)) (fun s H C cl fp => (hb _ (B.blk s H scope cl C fp)).1) (fun s H C cl fp => (hb _ (B.blk s H scope cl C fp)).2.1) (fun s H C cl fp => (hb _ (B.blk s H scope cl C fp)).2.2) hs) fun σ H Q w => ?_
  exact comp_open (fun i z => of_decide_eq_true (List.all_eq_true.mp hv i z)) w
theorem Bd.setLc (B : Bd X c k) {i : Nat} {x : Str} {p' : Pos} {elt tg iter : Expr} {ifs : List Expr} {scope : Scope} {spos : Pos} (own : List (Str × Nat)) {h : FI} {gt : FG} {cn : T → Res (Bool × T)} {ob : Bool} {vt : List Nat} {oo : Bool} (hk : c.sc.kind = .function) (hx : decide (c.N[i]? = some x) = true) (hl : (c.sc.names.lookup x == some .local) = true) (hln : (p'.line == pos.line) = true)
    (hne : (scope.names.any fun (n, k) => n == x && (k == .local || k == .cell)) = false) (ok : blkC c.N c.sc scope own = true) (hv : vt.all (fun i => decide (i ∈ own.map (·.2))) = true)
    (hs : ∀ x, foldedSetIterable iter X.env x = pure x) (hi : XI X io tg iter h) (hb : ∀ X', Bd X' (c.blk scope) k → XG X' io vt tg gt ∧ XTs X' io ifs cn ∧ XP X' io elt f) : XS X io (.Assign [.Name x p'] (.ListComp elt [⟨tg, iter, ifs, 0⟩] scope pos) spos) (setS io i oo (compF io (own.map (·.2)) ob h gt cn f)) := by
  have hloc : X.env.scope.names.lookup x = some .local := by rw [B.sc]; simpa using hl
  refine ps_weak (ps_setLc (wi := rdI X.K io h) (g := rdG X.K io vt gt) (tt := rdT X.K io cn) (te := rdP X.K io f) B.calm (by rw [B.N]; exact B.nd) (by rw [B.N]; exact of_decide_eq_true hx) hloc (sw_true (by rw [B.sc]; exact hk) hloc hln hne) hi (blkOk_by (by rw [B.N, B.sc]; exact ok)) (fun s H C cl fp => (hb _ (B.blk s H scope cl C fp)).1) (fun s H C cl fp => (hb _ (B.blk s H scope cl C fp)).2.1) (fun s H C cl fp => (hb _ (B.blk s H scope cl C fp)).2.2) hs) fun D σ H w => ?_
  exact comp_open (fun i z => of_decide_eq_true (List.all_eq_true.mp hv i z)) (set_open w)
/-- name = [..] where the name is a cell, or stands on another line -/
theorem Bd.setLcN (B : Bd X c k) {i : Nat} {x : Str} {p' : Pos} {elt : Expr} {gs : List Comprehension} {scope : Scope} {spos : Pos} {oo : Bool} (h : locC c.N c.sc c.fb i x = true) (hn : ((c.sc.names.lookup x == some .local) && (p'.line == pos.line)) = false) (hk : c.sc.kind = .function) (ha : XP X io (.ListComp elt gs scope pos) f) :
    XS X io (.Assign [.Name x p'] (.ListComp elt gs scope pos) spos) (setS io i oo f) := by
  obtain ⟨h1, h2, h3, h4⟩ := B.locs h
  refine xs_set h1 h2 h3 h4 ?_ ha
  have hb : X.env.blockKind = .function := by unfold Env.blockKind; rw [B.sc, hk]; rfl
  have hkx : X.env.kindOf x = c.sc.names.lookup x := by show X.env.scope.names.lookup x = _; rw [B.sc]
  unfold swapsWith
  simp only [hb, hkx, Expr.pos]
  have e1 : ((ScopeKind.function == ScopeKind.function) && (c.sc.names.lookup x == some NameKind.local) && (p'.line == pos.line)) = false := by
    rw [Bool.and_assoc, hn, Bool.and_false]
  rw [e1]
  rfl
end
end Pf

/-! Pf12: the law's call at the top. -/
namespace Pf
open PySem PySem.Spec PyProof.Rows L2

theorem reps_ints {K : PySem.W.Frag} {F : Hp} : ∀ ns : List Int, Reps K F (ns.map D.int) (ns.map V.int)
  | [] => Reps.nil
  | n :: ns => Reps.cons (by rw [Rep]) (reps_ints ns)
def scriptD (ns : List Int) : OV := .fz (.lst (ns.map D.int))
/-- the script as the law's argument -/
theorem sp_script {K : PySem.W.Frag} {H : Hp} {a : Addr} {ns : List Int} {fn : FV} {o : List OV} (hl : LsR K H a (ns.map V.int)) (h : fn [scriptD ns] = .ok (.fz (.bl true), o)) : spP K 1 [] fn [.ref a] H (fun v _ => v = .bl true) E0 := by
  refine ⟨H, [scriptD ns], fun _ => [], _, o, Same.refl _, fun _ _ z => absurd z (by simp), ⟨rfl, fun i d e => ?_, fun _ _ => rfl, fun _ _ _ z => absurd z (by simp), fun _ _ => rfl⟩, rfl, h, fun F' H' v bs cs P => ?_⟩
  · cases i with
    | zero =>
      cases e
      refine ⟨.ref a, rfl, Own.of_rep ?_⟩
      rw [Rep]
      exact ⟨a, _, rfl, hl, reps_ints ns⟩
    | succ i => simp at e
  · have w := P.ans
    rw [Own.fz_iff] at w
    have w2 := w.2
    rw [Rep] at w2
    exact w2
theorem top_run {P : Program} {w : World} {K : PySem.W.Frag} {mg mb : Str → Option Value} {k : Nat} {fa a : Addr} {fd : FuncData} {x : Str} {fn : FV} {s₁ : Shared} {vs : List Value} {ns : List Int}
    (KX : K.In s₁.heap) (gm : s₁.heap.Ns mainGlobals mg) (gb : s₁.heap.Ns builtinsNs mb) (bb : ∀ x : Str, x ≠ "__name__" → mb x = bootBuiltins x) (nl : s₁.heap.NoLimit) (ng : s₁.gens = #[])
    (ha : s₁.heap.get? a = some { cls := .type "list", data := .seq vs.toArray }) (hi : IntsAre vs ns) (hl : ns.length ≤ sizeLine) (hr : Room k callerA)
    (G : ∀ base : Heap, K.In base → base.Ns mainGlobals mg → FnG P w K mg base k fa fd [x] (spP K 1 [] fn)) (hb : ∀ (s : Shared) (u : Value), BindsTo s fd ⟨[u], []⟩ [(x, u)])
    (hf : ∃ o, fn [scriptD ns] = .ok (.fz (.bl true), o)) :
    codeAny (model P w) callerA (.call (.ref fa) ⟨[.ref a], []⟩) (fun r s' => r = .ok (.ret (.bool true)) ∧ OldK s₁.heap s'.heap ∧ s'.os = s₁.os ∧ AllBare s'.gens) s₁ := by
  obtain ⟨o, hf⟩ := hf
  have rv := vals_ints hi
  -- H: nothing but the script's list is tracked, and that one locked
  have main : ∀ H : Hp, (∀ b, H b = none ∨ b = a ∧ K.lookup a = none ∧ ∃ ob xs, H b = some (.frz ob (.lst xs))) → LsR K H a (ns.map V.int) → HOk P w H s₁.heap →
      codeAny (model P w) callerA (.call (.ref fa) ⟨[.ref a], []⟩) (fun r s' => r = .ok (.ret (.bool true)) ∧ OldK s₁.heap s'.heap ∧ s'.os = s₁.os ∧ AllBare s'.gens) s₁ := by
    intro H hH hL hok
    have dictFree : ∀ {b : Addr} {ob : Obj} {es : Array DictEntry} {ep : Nat}, s₁.heap.get? b = some ob → ob.data = .dict es ep → H b = none := fun {b ob es ep} e d => by
      rcases hH b with z | ⟨z, _⟩
      · exact z
      · subst z
        rw [ha] at e
        cases e
        exact absurd d (by simp)
    have ns' : ∀ {b : Addr} {m : Str → Option Value}, s₁.heap.Ns b m → (hidT s₁.heap H).Ns b m := fun {b m} q => by
      obtain ⟨ob, es, ep, e, d, r⟩ := q
      exact ⟨ob, es, ep, hidT_get e (dictFree e d), d, r⟩
    have KH : K.In (hidT s₁.heap H) := fun b ob e => by
      refine hidT_get (KX b ob e) ?_
      rcases hH b with z | ⟨z, z2, _⟩
      · exact z
      · subst z
        rw [z2] at e; cases e
    obtain ⟨mc, l1, l2⟩ := nl
    have e0 : Env0 P w K mg (hidT s₁.heap H) callerA [] s₁ H :=
      ⟨rfl, ⟨KH, ns' gm, ⟨mb, ns' gb, bb⟩, ⟨mc, ns' l1, l2⟩⟩, fun b ob e => of_hidT e, Nat.le_of_eq (hidT_size _ _), trivial, fun b z => absurd (show b ∈ ([] : List Addr) from z) (by simp), hok, .of_eq ng⟩
    refine codeAny_mono ((G _ KH (ns' gm)).go (us := [.ref a]) (vs := [.ref a]) rfl hr e0 (hb s₁ (.ref a)) (.cons rfl .nil) (sp_script hL hf)) fun r s' q => ?_
    cases r with
    | error e => exact False.elim q
    | ok fl =>
      cases fl with
      | next => exact False.elim q
      | brk => exact False.elim q
      | cont => exact False.elim q
      | ret u =>
        obtain ⟨v, H', os, bare, un, hok', rel, hv⟩ := q
        have hv : v = .bl true := hv
        subst hv
        obtain rfl : u = Value.bool true := rel
        refine ⟨rfl, OldK.of_keep fun b ob e => ?_, os, bare⟩
        rcases hH b with z | ⟨_, _, o2, xs, z⟩
        · exact un.keep b ob e z (fun y => absurd (show b ∈ ([] : List Addr) from y) (by simp)) (by simp)
        · obtain ⟨e1, _⟩ := hok b _ z
          obtain ⟨e2, _⟩ := hok' b _ (un.frzs b o2 _ z)
          rw [e] at e1
          cases e1
          exact e2
  cases hk : K.lookup a with
  | some ob =>
    have e := KX a ob hk
    rw [ha] at e
    cases e
    refine main (fun _ => none) (fun _ => .inl rfl) (.inr ⟨vs, hk, by rw [hi.length]; exact hl, rv⟩) fun b u z => ?_
    exact absurd (show (none : Option HO) = some u from z) (by simp)
  | none =>
    refine main (fun b => if b = a then some (.frz { cls := .type "list", data := .seq vs.toArray } (.lst (ns.map V.int))) else none) (fun b => ?_) (.inl (.inr ⟨_, if_pos rfl⟩)) fun b u z => ?_
    · by_cases hba : b = a
      · exact .inr ⟨hba, hk, _, _, if_pos hba⟩
      · exact .inl (if_neg hba)
    · by_cases hba : b = a
      · subst hba
        have z := (if_pos rfl).symm.trans z
        cases z
        exact ⟨ha, by rw [List.length_map]; exact hl, vs, _, rv, ha⟩
      · exact absurd ((if_neg hba).symm.trans z) (by simp)
theorem walk_top {l : PySem.W.OpenLaw} {n k : Nat} {q : Program} {loose : List Str} {XP : (Str → Option Value) → Heap → Prop} {YP : World → Heap → Prop} {d : DefRec} {x : Str} {fn : FV} (hn : l.most = some n) (hn2 : n ≤ sizeLine) (hdf : d.params.defaults = []) (hr : Room k callerA)
    (G : ∀ (w : World) (mg : Str → Option Value) (fa : Addr) (h : Heap), YP w h → h.Ns mainGlobals mg → mg d.name = some (.ref fa) → ∃ (K : PySem.W.Frag) (fd : FuncData), K.In h ∧ (∀ (s : Shared) (u : Value), BindsTo s fd ⟨[u], []⟩ [(x, u)]) ∧
      ∀ base : Heap, K.In base → base.Ns mainGlobals mg → FnG l.prog w K mg base k fa fd [x] (spP K 1 [] fn))
    (hf : ∀ ns : List Int, ns.length ≤ n → (∀ k ∈ ns, Builtin.Int.intBits k ≤ 1048576) → ∃ o, fn [scriptD ns] = .ok (.fz (.bl true), o)) :
    PySem.W.WalkO q loose XP YP l.row.toRowW d [] (fun f vs => PySem.call f vs) := by
  refine Att.attach_callB hn hdf fun w s₀ s₁ mg mb fa o pm cd doc a vs ns GG Y ho hcd hdd hmg hobj hints hlen hbits hg => ?_
  obtain ⟨K, fd, KX, hb, hG⟩ := G w mg fa _ Y GG.T.g hmg
  exact top_run KX GG.T.g GG.T.b GG.T.builtins GG.T.nolimit hg hobj hints (Nat.le_trans hlen hn2) hr hG hb (hf ns hlen hbits)
end Pf

/-! PfB: a slot's own list walked where it stands: it may be read meanwhile, not changed. -/
namespace Pf
open PySem PySem.Spec PyProof.Rows L2
section
variable {K : PySem.W.Frag} {C : Fx} {F : Hp} {fp : Nat → List Addr} {τ : T} {σ : L2.St} {H : Hp}
def Fx.hold (C : Fx) (i : Nat) (v : V) : Fx := { C with ios := (i, v) :: C.ios }
theorem Rel.hold {i : Nat} {v : V} (R : Rel K C F fp τ σ H) (h : σ[i]? = some (some v)) : Rel K (C.hold i v) F fp τ σ H :=
  ⟨R.sub, R.old, R.frame, R.new, R.len, R.slot, R.apart, R.own, R.lay, R.stay, fun p hp => by
    rcases List.mem_cons.mp hp with z | z
    · subst z; exact h
    · exact R.lent p z, fun a j e => List.mem_cons_of_mem _ (R.ioc a j e), R.pend⟩
theorem Rel.unhold {i : Nat} {v : V} (R : Rel K (C.hold i v) F fp τ σ H) (io : ∀ a i, C.io a = some i → i ∈ C.ios.map (·.1)) : Rel K C F fp τ σ H :=
  ⟨R.sub, R.old, R.frame, R.new, R.len, R.slot, R.apart, R.own, R.lay, R.stay, fun p hp => R.lent p (List.mem_cons_of_mem _ hp), io, R.pend⟩
theorem Rel.heldAt {i : Nat} {v : V} (R : Rel K (C.hold i v) F fp τ σ H) : σ[i]? = some (some v) := R.lent (i, v) List.mem_cons_self
theorem Tmp.unhold {i : Nat} {v : V} {r : OV} {x : V} {as : List Addr} (t : Tmp K (C.hold i v) F fp H r x as) : Tmp K C F fp H r x as := ⟨t.own, t.apart, t.new, t.free⟩
/-- the list at a as the slot holds it -/
theorem Rel.listAt {i : Nat} {a : Addr} {ds : List D} (R : Rel K C F fp τ σ H) (e : slotAt τ i = some (.ls (ds.map OV.fz))) (h : σ[i]? = some (some (.ref a))) : ∃ vs, SqL K H a vs ∧ Reps K F ds vs := by
  obtain ⟨v, e1, w⟩ := R.slot i _ e
  have e2 : some (some v) = some (some (.ref a)) := e1.symm.trans h
  cases e2
  rw [Own] at w
  obtain ⟨b, vs, bs, e3, _, hH, _, q⟩ := w
  cases e3
  exact ⟨vs, SqL.of hH, (Owns.to_reps q).1⟩
end
section
variable {X : Cx} {io : List Nat} {pos : Pos} {f c : FP} {g : FS} {e : Expr}
open Classical in
noncomputable def forOL (i : Nat) (o : OV) (gt : FG) (b : FS) : List D → FS
  | [] => fun τ => if slotAt τ i = some o then .ok (.nx, τ) else .bad
  | d :: ds => fun τ => if slotAt τ i = some o then (gt d τ).bind fun τ1 => (b τ1).bind fun (fl, τ2) => (match fl with
    | .nx => forOL i o gt b ds τ2
    | .ct => forOL i o gt b ds τ2
    | .bk => .ok (.nx, τ2)
    | .rt r => .ok (.rt r, τ2)) else .bad
noncomputable def forO (i : Nat) (gt : FG) (b : FS) : FS := fun τ => match slotAt τ i with
  | some (.ls xs) => match allFz xs with
    | some ds => forOL i (.ls xs) gt b ds τ
    | none => .bad
  | _ => .bad
theorem xs_forO {i : Nat} {tg iter : Expr} {body : List Stmt} {gt : FG} {vs : List Nat} (hp : PassesOwn (model X.prog X.w) X.A X.env X.xe) (hc : X.calm = true) (hs : ∀ x, foldedSetIterable iter X.env x = pure x) (h1 : XP X io iter (eSlot i)) (h2 : XG X (i :: io) vs tg gt) (h3 : XB X (i :: io) body g) :
    XS X io (.For tg iter body [] pos) (forO i gt g) := by
  refine ps_weak (ps_for hp hc (pi_any h1) h2 h3 hs) fun D σ H ⟨C, F, fp, τ, fl, τ', hio, R, e, q⟩ => ?_
  unfold forO at e
  split at e
  · rename_i xs es
    cases ha : allFz xs with
    | none => rw [ha] at e; cases e
    | some ds =>
      rw [ha] at e
      have hx := allFz_eq ha
      subst hx
      have e : forOL i (.ls (ds.map OV.fz)) gt g ds τ = .ok (fl, τ') := e
      obtain ⟨v, ev, w⟩ := R.slot i _ es
      have w' := w
      rw [Own] at w'
      obtain ⟨a, vs0, bs, rfl, _⟩ := w'
      have eS : eSlot i τ = .ok (.sl i, τ) := by unfold eSlot; rw [es]
      refine ⟨C, F, fp, τ, .sl i, τ, hio, R, eS, fun F1 fp1 H1 v R1 s1 pv => ?_⟩
      have pv : σ[i]? = some (some v) := pv
      have e2 : some (some v) = some (some (.ref a)) := pv.symm.trans ev
      cases e2
      obtain ⟨vs1, l1, _⟩ := R1.listAt es ev
      refine .inl ⟨a, vs1, rfl, l1, ?_⟩
      have R1h := R1.hold ev
      have hioh : (C.hold i (.ref a)).ios.map (·.1) = i :: io := by show i :: C.ios.map (·.1) = _; rw [hio]
      refine ⟨fun k m σ H => m = ds.length - k ∧ k ≤ ds.length ∧ ∃ F2 fp2 τ2, Rel X.K (C.hold i (.ref a)) F2 fp2 τ2 σ H ∧ Same F1 F2 ∧ forOL i (.ls (ds.map OV.fz)) gt g (ds.drop k) τ2 = .ok (fl, τ'), ⟨ds.length, rfl, Nat.zero_le _, F1, fp1, τ, R1h, Same.refl _, e⟩, ?_⟩
      rintro k m σ2 H2 ⟨rfl, hk2, F2, fp2, τ2, R2, s2, e3⟩
      by_cases hlt : k < ds.length
      · rw [drop_at hlt, forOL] at e3
        dsimp only at e3
        by_cases hsl : slotAt τ2 i = some (.ls (ds.map OV.fz))
        · rw [if_pos hsl] at e3
          obtain ⟨τ3, e4, e5⟩ := Res.bind_ok e3
          obtain ⟨⟨fl4, τ4⟩, e6, e7⟩ := Res.bind_ok e5
          obtain ⟨vs2, l2, r2⟩ := R2.listAt hsl R2.heldAt
          have hkd : ds[k]? = some ds[k] := List.getElem?_eq_getElem hlt
          obtain ⟨x0, ex0, rx0⟩ := r2.get hkd
          refine .inr ⟨⟨vs2, x0, l2, ex0⟩, fun σ' H' => ∃ F2 fp2 τ2, Rel X.K (C.hold i (.ref a)) F2 fp2 τ2 σ' H' ∧ Same F1 F2 ∧ forOL i (.ls (ds.map OV.fz)) gt g (ds.drop (k + 1)) τ2 = .ok (fl, τ'), fun σ' H' w => ⟨ds.length - (k + 1), by omega, rfl, hlt, w⟩, fun x H3 y => ?_⟩
          obtain ⟨rfl, yx⟩ := y
          have := yx vs2 l2
          rw [ex0] at this
          cases this
          refine ⟨C.hold i (.ref a), F2, fp2, τ2, ds[k], τ3, hioh, R2, rx0, e4, fun F4 fp4 σ4 R4 s4 _ => ?_⟩
          refine ⟨C.hold i (.ref a), F4, fp4, τ3, fl4, τ4, hioh, R4, e6, fun F5 fp5 σ5 H5 R5 s5 => ?_⟩
          have s15 : Same F1 F5 := (s2.trans s4).trans s5
          cases fl4 with
          | nx => exact ⟨F5, fp5, τ4, R5, s15, e7⟩
          | ct => exact ⟨F5, fp5, τ4, R5, s15, e7⟩
          | bk => cases e7; exact q F5 fp5 σ5 H5 (R5.unhold R.ioc) (s1.trans s15)
          | rt r =>
            cases e7
            have z := q F5 fp5 σ5 H5 (R5.unhold R.ioc) (s1.trans s15)
            exact fun v as t => z v as t.unhold
        · rw [if_neg hsl] at e3; cases e3
      · have ek : k = ds.length := by omega
        subst ek
        rw [List.drop_length, forOL] at e3
        dsimp only at e3
        by_cases hsl : slotAt τ2 i = some (.ls (ds.map OV.fz))
        · rw [if_pos hsl] at e3
          cases e3
          obtain ⟨vs2, l2, r2⟩ := R2.listAt hsl R2.heldAt
          exact .inl ⟨⟨vs2, l2, by rw [← r2.length]; exact Nat.le_refl _⟩, q F2 fp2 σ2 H2 (R2.unhold R.ioc) (s1.trans s2)⟩
        · rw [if_neg hsl] at e3; cases e3
  · cases e
open Classical in
/-- one clause's turns over slot i's own list -/
noncomputable def compOL (i : Nat) (o : OV) (io vs : List Nat) (own : Bool) (g : FG) (c : T → Res (Bool × T)) (f : FP) : List D → List OV → T → Res (List OV × T)
  | [], acc, τ => if slotAt τ i = some o then .ok (acc, τ) else .bad
  | d :: ds, acc, τ => if slotAt τ i = some o then (g d (wipeT τ vs)).bind fun τ1 => (c τ1).bind fun (b, τ2) => if b = true then (f τ2).bind fun (p, τ3) => (take io own p τ3).bind fun (r, τ4) =>
      if acc.length < sizeLine then compOL i o io vs own g c f ds (acc ++ [r]) τ4 else .bad
    else compOL i o io vs own g c f ds acc τ2
    else .bad
noncomputable def compO (io vs : List Nat) (own : Bool) (i : Nat) (g : FG) (c : T → Res (Bool × T)) (f : FP) : FP := fun τ => match slotAt τ i with
  | some (.ls xs) => match allFz xs with
    | some ds => if vs.all (noOwn τ) && vs.all (fun j => decide (j ∉ i :: io)) then (compOL i (.ls xs) (i :: io) vs own g c f ds [] τ).bind fun (acc, τ2) => .ok (.val (.ls acc), backT (wipeT τ2 vs) τ vs)
      else .bad
    | none => .bad
  | _ => .bad
theorem pend_hold {K : PySem.W.Frag} {C : Fx} {F H : Hp} {fp : Nat → List Addr} {τ : T} {σ : L2.St} {i : Nat} {v : V} {l : List (OV × V × List Addr)} (R : Rel K ((C.hold i v).pendTo l) F fp τ σ H) : Rel K ((C.pendTo l).hold i v) F fp τ σ H := R
theorem compO_open {i : Nat} {g : FG} {c : T → Res (Bool × T)} {f : FP} {own : Bool} {vs vt : List Nat} (ht : ∀ i ∈ vt, i ∈ vs) {σ : L2.St} {H : Hp} {Q : VK} (hh : rdP X.K io (compO io vs own i g c f) σ H Q) :
    tLc (iAny X.K (rdP X.K io (eSlot i))) (rdG X.K (i :: io) vt g) (rdT X.K (i :: io) c) (rdP X.K (i :: io) f) vs σ H Q := by
  obtain ⟨C, F, fp, τ, p, τ', hio, R, e, q⟩ := hh
  unfold compO at e
  split at e
  · rename_i xs es
    cases ha : allFz xs with
    | none => rw [ha] at e; cases e
    | some ds =>
      rw [ha] at e
      have hx := allFz_eq ha
      subst hx
      dsimp only at e
      by_cases hz : (vs.all (noOwn τ) && vs.all (fun j => decide (j ∉ i :: io))) = true
      · rw [if_pos hz] at e
        rw [Bool.and_eq_true] at hz
        obtain ⟨⟨accF, τF⟩, e2, e⟩ := Res.bind_ok e
        cases e
        obtain ⟨v, ev, w⟩ := R.slot i _ es
        have w' := w
        rw [Own] at w'
        obtain ⟨a, vs0, bs0, rfl, _⟩ := w'
        have eS : eSlot i τ = .ok (.sl i, τ) := by unfold eSlot; rw [es]
        have hiv : i ∉ vs := fun z => by
          have := of_decide_eq_true (List.all_eq_true.mp hz.2 i z)
          exact this List.mem_cons_self
        refine ⟨C, F, fp, τ, .sl i, τ, hio, R, eS, fun F1 fp1 H1 v R1 s1 pv => ?_⟩
        have pv : σ[i]? = some (some v) := pv
        have e3 : some (some v) = some (some (.ref a)) := pv.symm.trans ev
        cases e3
        obtain ⟨vs1, l1, _⟩ := R1.listAt es ev
        refine .inl ⟨a, vs1, rfl, l1, fun A nA => ?_⟩
        have hioh : (C.hold i (.ref a)).ios.map (·.1) = i :: io := by show i :: C.ios.map (·.1) = _; rw [hio]
        have hvio : ∀ j ∈ vs, j ∉ (C.hold i (.ref a)).ios.map (·.1) := fun j hj => by rw [hioh]; exact of_decide_eq_true (List.all_eq_true.mp hz.2 j hj)
        have R1 := R1.hold ev
        have hA0 : C.H0 A = none := R1.stay A nA
        have gA := Grow.lst (K := X.K) (ds := []) (vs := []) R1.sub nA Reps.nil
        obtain ⟨RA, as, tA⟩ := gA.rel R1
        have ea : as = [A] := by
          have w := tA.own
          rw [List.map_nil, Own] at w
          obtain ⟨a', vs', bs', z1, z2, z3, z4, z5⟩ := w
          cases z1
          rw [Owns] at z5
          rw [z2, z5.2]
        subst ea
        have RP := (Rel.addPend (C := C.hold i (.ref a)) (l := C.pend) RA tA).wipe hvio
        have wat : ∀ σ0 : L2.St, (L2.wipe σ0 vs)[i]? = σ0[i]? := fun σ0 => wipe_at hiv
        refine ⟨fun k m H => m = ds.length - k ∧ k ≤ ds.length ∧ ∃ acc bs F2 fp2 τ', Rel X.K ((C.hold i (.ref a)).pendTo ((.ls acc, .ref A, A :: bs) :: C.pend)) F2 fp2 (wipeT τ' vs) (L2.wipe σ vs) H ∧ Same F1 F2 ∧ (∀ a ∈ A :: bs, C.H0 a = none ∧ ∀ t ∈ C.pend, a ∉ t.2.2) ∧ compOL i (.ls (ds.map OV.fz)) (i :: io) vs own g c f (ds.drop k) acc τ' = .ok (accF, τF),
          ⟨ds.length, rfl, Nat.zero_le _, [], [], F1, fp1, τ, RP, Same.refl _, fun a ha => ⟨(tA.new a ha).2, fun t ht => tA.free a ha t ht⟩, e2⟩, ?_⟩
        rintro k m H2 ⟨rfl, hk2, acc, bs, F2, fp2, τ', R2, s2, hb, e3⟩
        have lst : slotAt τ' i = some (.ls (ds.map OV.fz)) → ∃ vs2, SqL X.K H2 a vs2 ∧ Reps X.K F2 ds vs2 := fun hs => by
          refine R2.listAt ?_ (R2.lent (i, .ref a) List.mem_cons_self)
          rw [wipeT_at, if_neg hiv]
          exact hs
        by_cases hlt : k < ds.length
        · rw [drop_at hlt, compOL] at e3
          by_cases hsl : slotAt τ' i = some (.ls (ds.map OV.fz))
          · rw [if_pos hsl] at e3
            obtain ⟨τ3, e4, e5⟩ := Res.bind_ok e3
            obtain ⟨⟨b, τ4⟩, e6, e7⟩ := Res.bind_ok e5
            dsimp only at e7
            obtain ⟨vs2, l2, r2⟩ := lst hsl
            obtain ⟨x0, ex0, rx0⟩ := r2.get (List.getElem?_eq_getElem hlt)
            refine .inr ⟨⟨vs2, x0, l2, ex0⟩, fun H => ∃ acc bs F2 fp2 τ', Rel X.K ((C.hold i (.ref a)).pendTo ((.ls acc, .ref A, A :: bs) :: C.pend)) F2 fp2 (wipeT τ' vs) (L2.wipe σ vs) H ∧ Same F1 F2 ∧ (∀ a ∈ A :: bs, C.H0 a = none ∧ ∀ t ∈ C.pend, a ∉ t.2.2) ∧ compOL i (.ls (ds.map OV.fz)) (i :: io) vs own g c f (ds.drop (k + 1)) acc τ' = .ok (accF, τF),
              fun H' w => ⟨ds.length - (k + 1), by omega, rfl, hlt, w⟩, fun x H3 y => ?_⟩
            obtain ⟨rfl, yx⟩ := y
            have := yx vs2 l2
            rw [ex0] at this
            cases this
            refine ⟨(C.hold i (.ref a)).pendTo ((.ls acc, .ref A, A :: bs) :: C.pend), F2, fp2, wipeT τ' vs, ds[k], τ3, hioh, R2, rx0, e4, fun F4 fp4 σ4 R4 s4 n4 => ?_⟩
            have hw : L2.wipe σ4 vs = L2.wipe σ vs := wipe_eq (n4.1.trans (wipe_length σ vs)) fun j hj => (n4.2 j fun z => hj (ht j z)).trans (wipe_at hj)
            refine ⟨hw, (C.hold i (.ref a)).pendTo ((.ls acc, .ref A, A :: bs) :: C.pend), F4, fp4, τ3, b, τ4, hioh, R4, e6, fun F5 fp5 H5 R5 s5 => ?_⟩
            have s15 : Same F1 F5 := (s2.trans s4).trans s5
            cases b with
            | false =>
              simp only [Bool.false_eq_true, if_false] at e7 ⊢
              have R6 := R5.wipe hvio
              rw [hw] at R6
              exact ⟨acc, bs, F5, fp5, τ4, R6, s15, hb, e7⟩
            | true =>
              simp only [if_true] at e7 ⊢
              obtain ⟨⟨p, τ5⟩, e8, e9⟩ := Res.bind_ok e7
              obtain ⟨⟨r, τ6⟩, e10, e11⟩ := Res.bind_ok e9
              dsimp only at e11
              by_cases hz2 : acc.length < sizeLine
              · rw [if_pos hz2] at e11
                refine ⟨(C.hold i (.ref a)).pendTo ((.ls acc, .ref A, A :: bs) :: C.pend), F5, fp5, τ4, p, τ5, hioh, R5, e8, fun F6 fp6 H6 v R6 s6 w6 => ?_⟩
                obtain ⟨F7, fp7, as7, R7, s7, t7⟩ := Rel.take (C := (C.hold i (.ref a)).pendTo ((.ls acc, .ref A, A :: bs) :: C.pend)) hioh R6 w6 e10
                obtain ⟨ws, hH, hl, R8⟩ := Rel.pendPush (C := C.hold i (.ref a)) R7 t7 (fun p hp => (hb A List.mem_cons_self).2 p hp) hA0
                have R9 := R8.wipe hvio
                rw [hw] at R9
                refine ⟨ws, hH, by rw [hl]; exact hz2, acc ++ [r], bs ++ as7, F7, fp7, τ6, R9, (s15.trans s6).trans s7, fun a ha => ?_, e11⟩
                rcases List.mem_cons.mp ha with z | ha
                · exact hb a (by rw [z]; exact List.mem_cons_self)
                · rcases List.mem_append.mp ha with ha | ha
                  · exact hb a (List.mem_cons_of_mem _ ha)
                  · exact ⟨(t7.new a ha).2, fun t ht2 => t7.free a ha t (List.mem_cons_of_mem _ ht2)⟩
              · rw [if_neg hz2] at e11; cases e11
          · rw [if_neg hsl] at e3; cases e3
        · have ek : k = ds.length := by omega
          subst ek
          rw [List.drop_length, compOL] at e3
          by_cases hsl : slotAt τ' i = some (.ls (ds.map OV.fz))
          · rw [if_pos hsl] at e3
            cases e3
            obtain ⟨vs2, l2, r2⟩ := lst hsl
            obtain ⟨fp3, R3, hfp⟩ := R2.unwipe R1 s2 hz.1 hvio
            have tt := Rel.unPend (C := C.hold i (.ref a)) R3 (fun a ha => (hb a ha).1) fun a ha t ht => (hb a ha).2 t ht
            refine .inl ⟨⟨vs2, l2, by rw [← r2.length]; exact Nat.le_refl _⟩, q F2 fp3 H2 _ ?_ (s1.trans s2) ⟨A :: bs, ?_⟩⟩
            · exact (Rel.dropPend (C := C.hold i (.ref a)) R3).unhold R.ioc
            · exact Tmp.unhold (i := i) (v := .ref a) tt
          · rw [if_neg hsl] at e3; cases e3
      · rw [if_neg hz] at e; cases e
  · cases e
/-! by a card -/
variable {cd : Cd} {k : Nat}
theorem Bd.forO (B : Bd X cd k) {i : Nat} {tg iter : Expr} {body : List Stmt} {gt : FG} {g : FS} {vs : List Nat} (hs : ∀ x, foldedSetIterable iter X.env x = pure x) (h1 : XP X io iter (eSlot i)) (h2 : XG X (i :: io) vs tg gt) (h3 : XB X (i :: io) body g) :
    XS X io (.For tg iter body [] pos) (forO i gt g) := xs_forO (by rw [B.nox]; exact PassesOwn.never) B.calm hs h1 h2 h3
theorem Bd.compO (B : Bd X cd k) {i : Nat} {elt tg iter : Expr} {ifs : List Expr} {scope : Scope} (own : List (Str × Nat)) {gt : FG} {cn : T → Res (Bool × T)} {f : FP} {ob : Bool} {vt : List Nat} (ok : blkC cd.N cd.sc scope own = true) (hv : vt.all (fun i => decide (i ∈ own.map (·.2))) = true)
    (hs : ∀ x, foldedSetIterable iter X.env x = pure x) (hi : XP X io iter (eSlot i)) (hb : ∀ X', Bd X' (cd.blk scope) k → XG X' (i :: io) vt tg gt ∧ XTs X' (i :: io) ifs cn ∧ XP X' (i :: io) elt f) : XP X io (.ListComp elt [⟨tg, iter, ifs, 0⟩] scope pos) (compO io (own.map (·.2)) ob i gt cn f) := by
  refine pe_weak (pe_lc (wi := iAny X.K (rdP X.K io (eSlot i))) (g := rdG X.K (i :: io) vt gt) (tt := rdT X.K (i :: io) cn) (te := rdP X.K (i :: io) f) B.calm (by rw [B.N]; exact B.nd) (pi_any hi) (blkOk_by (by rw [B.N, B.sc]; exact ok)) (fun s H C cl fp => (hb _ (B.blk s H scope cl C fp)).1) (fun s H C cl fp => (hb _ (B.blk s H scope cl C fp)).2.1) (fun s H C cl fp => (hb _ (B.blk s H scope cl C fp)).2.2) hs) fun σ H Q w => ?_
  exact compO_open (fun i z => of_decide_eq_true (List.all_eq_true.mp hv i z)) w
theorem Bd.setLcO (B : Bd X cd k) {i j : Nat} {x : Str} {p' : Pos} {elt tg iter : Expr} {ifs : List Expr} {scope : Scope} {spos : Pos} (own : List (Str × Nat)) {gt : FG} {cn : T → Res (Bool × T)} {f : FP} {ob : Bool} {vt : List Nat} {oo : Bool} (hk : cd.sc.kind = .function) (hx : decide (cd.N[i]? = some x) = true) (hl : (cd.sc.names.lookup x == some .local) = true) (hln : (p'.line == pos.line) = true)
    (hne : (scope.names.any fun (n, k) => n == x && (k == .local || k == .cell)) = false) (ok : blkC cd.N cd.sc scope own = true) (hv : vt.all (fun i => decide (i ∈ own.map (·.2))) = true)
    (hs : ∀ x, foldedSetIterable iter X.env x = pure x) (hi : XP X io iter (eSlot j)) (hb : ∀ X', Bd X' (cd.blk scope) k → XG X' (j :: io) vt tg gt ∧ XTs X' (j :: io) ifs cn ∧ XP X' (j :: io) elt f) : XS X io (.Assign [.Name x p'] (.ListComp elt [⟨tg, iter, ifs, 0⟩] scope pos) spos) (setS io i oo (Pf.compO io (own.map (·.2)) ob j gt cn f)) := by
  have hloc : X.env.scope.names.lookup x = some .local := by rw [B.sc]; simpa using hl
  refine ps_weak (ps_setLc (wi := iAny X.K (rdP X.K io (eSlot j))) (g := rdG X.K (j :: io) vt gt) (tt := rdT X.K (j :: io) cn) (te := rdP X.K (j :: io) f) B.calm (by rw [B.N]; exact B.nd) (by rw [B.N]; exact of_decide_eq_true hx) hloc (sw_true (by rw [B.sc]; exact hk) hloc hln hne) (pi_any hi) (blkOk_by (by rw [B.N, B.sc]; exact ok)) (fun s H C cl fp => (hb _ (B.blk s H scope cl C fp)).1) (fun s H C cl fp => (hb _ (B.blk s H scope cl C fp)).2.1) (fun s H C cl fp => (hb _ (B.blk s H scope cl C fp)).2.2) hs) fun D σ H w => ?_
  exact compO_open (fun i z => of_decide_eq_true (List.all_eq_true.mp hv i z)) (set_open w)
/-! a, b = e1, e2 by a tuple: own lists stay own -/
def XNs (X : Cx) (is : List Nat) (ts : List Expr) : Prop := PGs X ts (fun vs σ H Q => vs.length = is.length ∧ Q (setL σ is vs) H) ∧ ts.all notStar = true
theorem xn_nil : XNs X [] [] := by
  refine ⟨pgs_weak pgs_nil fun v σ H Q w => ?_, rfl⟩
  obtain ⟨h1, h2⟩ := w
  cases v with
  | nil => exact ⟨rfl, h2⟩
  | cons _ _ => cases h1
theorem Bd.xn (B : Bd X cd k) {i : Nat} {x : Str} {is : List Nat} {ts : List Expr} (h : locC cd.N cd.sc cd.fb i x = true) (r : XNs X is ts) : XNs X (i :: is) (.Name x pos :: ts) := by
  obtain ⟨h1, h2, h3, h4⟩ := B.locs h
  refine ⟨pgs_weak (pgs_cons (pg_name (i := i) h1 h2 h3 h4) r.1 (assign_cons rfl)) fun v σ H Q ⟨e1, e2⟩ => ?_, by rw [List.all_cons, r.2]; rfl⟩
  cases v with
  | nil => cases e1
  | cons v vs =>
    refine ⟨v, vs, rfl, ?_⟩
    exact ⟨by simpa using e1, e2⟩
theorem Bd.parT (B : Bd X cd k) {ts es : List Expr} {kt k2 : Nat} {pt pt2 : Pos} {is : List Nat} {h : FO'} (hk : cd.sc.kind = .function) (hw : swC cd.sc ts es = none) (hca : (!(es.all (constantsAlone 8)) || es.all (foldedForSure 8)) = true) (hl : ts.length = is.length) (hz : is.length ≤ 1000) (hn : XNs X is ts) (ha : XL X io es h) :
    XS X io (.Assign [.Tuple ts kt pt] (.Tuple es k2 pt2) pos) (parS io is h) := by
  obtain ⟨l1, l2⟩ := assign_len (env := X.env) hn.2
  have hs : swappedStores [.Tuple ts kt pt] (.Tuple es k2 pt2) X.env = pure none := by rw [swapped_by (by rw [B.sc]; exact hk) hca, B.sc, hw]
  refine ps_weak (ps_asg (pe_tup ha) (pg_tup B.calm hn.1 l1 l2) rfl hs) fun D σ H w => ?_
  obtain ⟨C, F, fp, τ, fl, τ', hio, R, e, q⟩ := w
  obtain ⟨⟨rs, τ1⟩, e1, e⟩ := Res.bind_ok e
  obtain ⟨τ2, e2, e⟩ := Res.bind_ok e
  cases e
  refine ⟨C, F, fp, τ, rs, τ1, hio, R, e1, fun F1 fp1 H1 l R1 s1 pl el => ?_⟩
  subst el
  have hl2 : (l.map (·.2.1)).length = is.length := by
    obtain ⟨hl2, _⟩ := Rel.putL hio R1 pl e2
    rw [List.length_map, hl2]
  refine ⟨by rw [hl2]; exact Nat.le_trans hz (by decide), fun p np => ?_⟩
  have R2 : Rel X.K (C.pendTo (l ++ C.pend)) F1 fp1 τ1 σ (upd H1 p (.tup (l.map (·.2.1)))) := R1.grow (fun b o hb => by rw [upd_ne (ne_of_none hb np)]; exact hb) (Same.refl _) (fun b o hb => by rw [upd_ne (ne_of_none (R1.sub b o hb) np)]; exact R1.sub b o hb) fun a o e => .inl e
  obtain ⟨_, fp3, R3⟩ := Rel.putL hio R2 pl e2
  exact ⟨p, _, rfl, .inl (.inl upd_same), by rw [hl2, hl], hl2, q F1 fp3 _ _ R3 s1⟩
end
end Pf

/-! Pf13: the functions worked out, one step a rule (what comes behind a step bears a name, so that simp leaves it). -/
namespace Pf
open PySem PySem.Spec PyProof.Rows L2
theorem okb {α β : Type} (a : α) (f : α → Res β) : (Res.ok a).bind f = f a := (rfl)
theorem badb {α β : Type} (f : α → Res β) : (Res.bad : Res α).bind f = .bad := (rfl)
theorem gdt {α : Type} (a : α) : gd true a = .ok a := (rfl)
theorem sl0 {o : Option OV} {l : T} : slotAt (o :: l) 0 = o := by unfold slotAt; simp
theorem slS {o : Option OV} {l : T} {i : Nat} : slotAt (o :: l) (i + 1) = slotAt l i := by unfold slotAt; simp
/-! expressions -/
def eSlotK (i : Nat) (τ : T) : Option OV → Res (Pre × T)
  | some _ => .ok (.sl i, τ)
  | none => .bad
theorem eSlot_e (i : Nat) (τ : T) : eSlot i τ = eSlotK i τ (slotAt τ i) := by unfold eSlot eSlotK; cases slotAt τ i <;> rfl
theorem eSlotK_some (i : Nat) (τ : T) (o : OV) : eSlotK i τ (some o) = .ok (.sl i, τ) := (rfl)
theorem eLit_e (d : D) (τ : T) : eLit d τ = .ok (.val (.fz d), τ) := (rfl)
theorem opd_val (r : OV) : opd (.val r) = .val (.fz r.er) := (rfl)
theorem opd_sl (i : Nat) : opd (.sl i) = .sl i := (rfl)
theorem vw_val (τ : T) (r : OV) : vw τ (.val r) = some r := (rfl)
theorem vw_sl (τ : T) (i : Nat) : vw τ (.sl i) = slotAt τ i := (rfl)
theorem er_fz (d : D) : (OV.fz d).er = d := (rfl)
theorem er_ls (xs : List OV) : (OV.ls xs).er = .lst (OV.ers xs) := (rfl)
def twoM (k : OV → OV → Res OV) (τ : T) : Option OV → Option OV → Res (Pre × T)
  | some x, some y => (k x y).bind fun r => .ok (.val r, τ)
  | _, _ => .bad
def twoL (k : OV → OV → Res OV) (p : Pre) : Pre × T → Res (Pre × T) := fun (q, τ) => twoM k τ (vw τ (opd p)) (vw τ (opd q))
def twoK (g : FP) (k : OV → OV → Res OV) : Pre × T → Res (Pre × T) := fun (p, τ) => (g τ).bind (twoL k p)
def valK (τ : T) : OV → Res (Pre × T) := fun r => .ok (.val r, τ)
theorem two_e (f g : FP) (k : OV → OV → Res OV) (τ : T) : two f g k τ = (f τ).bind (twoK g k) := by
  unfold two
  congr 1
theorem twoK_e (g : FP) (k : OV → OV → Res OV) (p : Pre) (τ : T) : twoK g k (p, τ) = (g τ).bind (twoL k p) := (rfl)
theorem twoL_e (k : OV → OV → Res OV) (p q : Pre) (τ : T) : twoL k p (q, τ) = twoM k τ (vw τ (opd p)) (vw τ (opd q)) := (rfl)
theorem twoM_e (k : OV → OV → Res OV) (τ : T) (x y : OV) : twoM k τ (some x) (some y) = (k x y).bind (valK τ) := (rfl)
theorem valK_e (τ : T) (r : OV) : valK τ r = .ok (.val r, τ) := (rfl)
def truK : Pre × T → Res (Bool × T) := fun (p, τ) => match vw τ (opd p) with
  | some o => (truthOf o).bind fun b => .ok (b, τ)
  | none => .bad
def truM (τ : T) : Option OV → Res (Bool × T)
  | some o => (truthOf o).bind fun b => .ok (b, τ)
  | none => .bad
def blK (τ : T) : Bool → Res (Bool × T) := fun b => .ok (b, τ)
theorem tru_e (f : FP) (τ : T) : tru f τ = (f τ).bind truK := (rfl)
theorem truK_e (p : Pre) (τ : T) : truK (p, τ) = truM τ (vw τ (opd p)) := by
  unfold truK truM
  dsimp only
theorem truM_e (τ : T) (o : OV) : truM τ (some o) = (truthOf o).bind (blK τ) := (rfl)
theorem blK_e (τ : T) (b : Bool) : blK τ b = .ok (b, τ) := (rfl)
def boK (isOr : Bool) (g : FP) : Pre × T → Res (Pre × T) := fun (p, τ) => match vw τ (opd p) with
  | some o => (truthOf o).bind fun k => if k = isOr then .ok (opd p, τ) else g τ
  | none => .bad
def boM (isOr : Bool) (g : FP) (p : Pre) (τ : T) : Option OV → Res (Pre × T)
  | some o => (truthOf o).bind fun k => if k = isOr then .ok (p, τ) else g τ
  | none => .bad
def boN (isOr : Bool) (g : FP) (p : Pre) (τ : T) : Bool → Res (Pre × T) := fun k => if k = isOr then .ok (p, τ) else g τ
theorem boF_e (isOr : Bool) (f g : FP) (τ : T) : boF isOr f g τ = (f τ).bind (boK isOr g) := (rfl)
theorem boK_e (isOr : Bool) (g : FP) (p : Pre) (τ : T) : boK isOr g (p, τ) = boM isOr g (opd p) τ (vw τ (opd p)) := by
  unfold boK boM
  dsimp only
theorem boM_e (isOr : Bool) (g : FP) (p : Pre) (τ : T) (o : OV) : boM isOr g p τ (some o) = (truthOf o).bind (boN isOr g p τ) := (rfl)
theorem boN_tt (g : FP) (p : Pre) (τ : T) : boN true g p τ true = .ok (p, τ) := (rfl)
theorem boN_tf (g : FP) (p : Pre) (τ : T) : boN true g p τ false = g τ := (rfl)
theorem boN_ft (g : FP) (p : Pre) (τ : T) : boN false g p τ true = g τ := (rfl)
theorem boN_ff (g : FP) (p : Pre) (τ : T) : boN false g p τ false = .ok (p, τ) := (rfl)
def notK : Bool × T → Res (Pre × T) := fun (k, τ) => .ok (.val (.fz (.bl (!k))), τ)
theorem notF_e (f : FP) (τ : T) : notF f τ = (tru f τ).bind notK := (rfl)
theorem notK_e (k : Bool) (τ : T) : notK (k, τ) = .ok (.val (.fz (.bl (!k))), τ) := (rfl)
def iteK (f g : FP) : Bool × T → Res (Pre × T) := fun (k, τ) => if k = true then f τ else g τ
theorem iteF_e (c f g : FP) (τ : T) : iteF c f g τ = (tru c τ).bind (iteK f g) := (rfl)
theorem iteK_t (f g : FP) (τ : T) : iteK f g (true, τ) = f τ := (rfl)
theorem iteK_f (f g : FP) (τ : T) : iteK f g (false, τ) = g τ := (rfl)
def negM (τ : T) : Option OV → Res (Pre × T)
  | some (.fz (.int i)) => .ok (.val (.fz (.int (-i))), τ)
  | _ => .bad
def negK : Pre × T → Res (Pre × T) := fun (p, τ) => negM τ (vw τ (opd p))
theorem negF_e (f : FP) (τ : T) : negF f τ = (f τ).bind negK := by
  unfold negF
  congr 1
theorem negK_e (p : Pre) (τ : T) : negK (p, τ) = negM τ (vw τ (opd p)) := (rfl)
theorem negM_e (τ : T) (i : Int) : negM τ (some (.fz (.int i))) = .ok (.val (.fz (.int (-i))), τ) := (rfl)
/-! arguments -/
theorem nilA_e (τ : T) : nilA τ = .ok ([], τ) := (rfl)
def consA3 (p : Pre) : List Pre × T → Res (List Pre × T) := fun (ps, τ) => .ok (p :: ps, τ)
def consA2 (h : FA) : Pre × T → Res (List Pre × T) := fun (p, τ) => (h τ).bind (consA3 p)
def consA1 (io : List Nat) (pk : Bool) (h : FA) : Pre × T → Res (List Pre × T) := fun (p, τ) => (kept io pk p τ).bind (consA2 h)
theorem consA_e (io : List Nat) (pk : Bool) (f : FP) (h : FA) (τ : T) : consA io pk f h τ = (f τ).bind (consA1 io pk h) := (rfl)
theorem consA1_e (io : List Nat) (pk : Bool) (h : FA) (p : Pre) (τ : T) : consA1 io pk h (p, τ) = (kept io pk p τ).bind (consA2 h) := (rfl)
theorem consA2_e (h : FA) (p : Pre) (τ : T) : consA2 h (p, τ) = (h τ).bind (consA3 p) := (rfl)
theorem consA3_e (p : Pre) (ps : List Pre) (τ : T) : consA3 p (ps, τ) = .ok (p :: ps, τ) := (rfl)
def keptK : D × T → Res (Pre × T) := fun (d, τ) => .ok (.val (.fz d), τ)
theorem kept_t (io : List Nat) (p : Pre) (τ : T) : kept io true p τ = .ok (opd p, τ) := (rfl)
theorem kept_f (io : List Nat) (p : Pre) (τ : T) : kept io false p τ = (settle io p τ).bind keptK := (rfl)
theorem keptK_e (d : D) (τ : T) : keptK (d, τ) = .ok (.val (.fz d), τ) := (rfl)
theorem settle_val (io : List Nat) (r : OV) (τ : T) : settle io (.val r) τ = .ok (r.er, τ) := (rfl)
theorem settle_sl (io : List Nat) (i : Nat) (τ : T) : settle io (.sl i) τ = frzSlot io i τ (slotAt τ i) := (rfl)
theorem frzSlot_fz (io : List Nat) (i : Nat) (τ : T) (d : D) : frzSlot io i τ (some (.fz d)) = .ok (d, τ) := (rfl)
theorem frzSlot_ls (io : List Nat) (i : Nat) (τ : T) (xs : List OV) : frzSlot io i τ (some (.ls xs)) = if i ∈ io then .bad else .ok (.lst (OV.ers xs), τ.set i (some (.fz (.lst (OV.ers xs))))) := (rfl)
def dsK (mk : List D → OV) (τ : T) : Option (List D) → Res (Pre × T)
  | some ds => gd (decide (ds.length ≤ sizeLine)) (.val (mk ds), τ)
  | none => .bad
def tupK (mk : List D → OV) : List Pre × T → Res (Pre × T) := fun (ps, τ) => dsK mk τ (datas ps)
theorem tupF_e (h : FA) (τ : T) : tupF h τ = (h τ).bind (tupK fun ds => .fz (.tup ds)) := by
  unfold tupF
  congr 1
theorem lstF_e (h : FA) (τ : T) : lstF h τ = (h τ).bind (tupK fun ds => .ls (ds.map OV.fz)) := by
  unfold lstF
  congr 1
theorem tupK_e (mk : List D → OV) (ps : List Pre) (τ : T) : tupK mk (ps, τ) = dsK mk τ (datas ps) := (rfl)
theorem dsK_e (mk : List D → OV) (τ : T) (ds : List D) : dsK mk τ (some ds) = gd (decide (ds.length ≤ sizeLine)) (.val (mk ds), τ) := (rfl)
theorem datas_nil : datas [] = some [] := (rfl)
theorem datas_cons (d : D) (ps : List Pre) : datas (.val (.fz d) :: ps) = (datas ps).map (d :: ·) := (rfl)
theorem vws_nil (τ : T) : vws τ [] = some [] := (rfl)
def vwsK : Option OV → Option (List OV) → Option (List OV)
  | some o, some os => some (o :: os)
  | _, _ => none
theorem vws_cons (τ : T) (p : Pre) (ps : List Pre) : vws τ (p :: ps) = vwsK (vw τ p) (vws τ ps) := by
  rw [vws]
  cases vw τ p <;> cases vws τ ps <;> rfl
theorem vwsK_e (o : OV) (os : List OV) : vwsK (some o) (some os) = some (o :: os) := (rfl)
def biM (k : List OV → Res OV) (τ : T) : Option (List OV) → Res (Pre × T)
  | some os => (k os).bind fun r => .ok (.val r, τ)
  | none => .bad
def biK (k : List OV → Res OV) : List Pre × T → Res (Pre × T) := fun (ps, τ) => biM k τ (vws τ ps)
theorem biF_e (h : FA) (k : List OV → Res OV) (τ : T) : biF h k τ = (h τ).bind (biK k) := by
  unfold biF
  congr 1
theorem biK_e (k : List OV → Res OV) (ps : List Pre) (τ : T) : biK k (ps, τ) = biM k τ (vws τ ps) := (rfl)
theorem biM_e (k : List OV → Res OV) (τ : T) (os : List OV) : biM k τ (some os) = (k os).bind (valK τ) := (rfl)
def rngM (k : List OV → Res (List D)) (τ : T) : Option (List OV) → Res (List D × T)
  | some os => (k os).bind fun ds => .ok (ds, τ)
  | none => .bad
def rngK (k : List OV → Res (List D)) : List Pre × T → Res (List D × T) := fun (ps, τ) => rngM k τ (vws τ ps)
def itsK (τ : T) : List D → Res (List D × T) := fun ds => .ok (ds, τ)
theorem rngF_e (k : List OV → Res (List D)) (h : FA) (τ : T) : rngF k h τ = (h τ).bind (rngK k) := by
  unfold rngF
  congr 1
theorem rngK_e (k : List OV → Res (List D)) (ps : List Pre) (τ : T) : rngK k (ps, τ) = rngM k τ (vws τ ps) := (rfl)
theorem rngM_e (k : List OV → Res (List D)) (τ : T) (os : List OV) : rngM k τ (some os) = (k os).bind (itsK τ) := (rfl)
theorem itsK_e (τ : T) (ds : List D) : itsK τ ds = .ok (ds, τ) := (rfl)
def elemB (m : Nat) : List (Option Nat) → Bool
  | [] => false
  | none :: l => elemB m l
  | some k :: l => (m == k) || elemB m l
def ndB : List (Option Nat) → Bool
  | [] => true
  | none :: l => ndB l
  | some m :: l => !elemB m l && ndB l
theorem elemB_ok {m : Nat} : ∀ {l : List (Option Nat)}, elemB m l = false → m ∉ l.filterMap id
  | [], _ => by simp
  | none :: l, h => by simpa using elemB_ok (l := l) h
  | some k :: l, h => by
    unfold elemB at h
    rw [Bool.or_eq_false_iff] at h
    have h1 : m ≠ k := by simpa using h.1
    have := elemB_ok h.2
    simp only [List.filterMap_cons, id_eq, List.mem_cons, not_or]
    exact ⟨h1, this⟩
theorem ndB_ok : ∀ {l : List (Option Nat)}, ndB l = true → (l.filterMap id).Nodup
  | [], _ => by simp
  | none :: l, h => by simpa using ndB_ok (l := l) h
  | some k :: l, h => by
    unfold ndB at h
    rw [Bool.and_eq_true, Bool.not_eq_true'] at h
    have h1 := elemB_ok h.1
    have h2 := ndB_ok h.2
    simp only [List.filterMap_cons, id_eq]
    exact List.nodup_cons.mpr ⟨h1, h2⟩
def callN (τ : T) (ms : List (Option Nat)) : OV × List OV → Res (Pre × T) := fun x => (Res.of (backL τ ms x.2)).bind fun τ2 => .ok (.val x.1, τ2)
def callM (n : Nat) (fn : FV) (τ : T) : Option (List OV × List (Option Nat)) → Res (Pre × T)
  | some (os, ms) => if os.length = n ∧ (ms.filterMap id).Nodup then (fn os).bind (callN τ ms) else .bad
  | none => .bad
def callK (n : Nat) (l : List Nat) (fn : FV) : List Pre × T → Res (Pre × T) := fun (ps, τ) => callM n fn τ (argsOf τ 0 l ps)
theorem callF_e (n : Nat) (l : List Nat) (fn : FV) (h : FA) (τ : T) : callF n l fn h τ = (h τ).bind (callK n l fn) := by
  unfold callF callK callM callN
  rfl
theorem callK_e (n : Nat) (l : List Nat) (fn : FV) (ps : List Pre) (τ : T) : callK n l fn (ps, τ) = callM n fn τ (argsOf τ 0 l ps) := (rfl)
theorem callM_e (n : Nat) (fn : FV) (τ : T) (os : List OV) (ms : List (Option Nat)) (h : (decide (os.length = n) && ndB ms) = true) : callM n fn τ (some (os, ms)) = (fn os).bind (callN τ ms) := by
  rw [Bool.and_eq_true] at h
  exact if_pos ⟨of_decide_eq_true h.1, ndB_ok h.2⟩
def callP (r : OV) : Option T → Res (Pre × T)
  | some τ => .ok (.val r, τ)
  | none => .bad
theorem callN_e (τ : T) (ms : List (Option Nat)) (r : OV) (os : List OV) : callN τ ms (r, os) = callP r (backL τ ms os) := by
  unfold callN callP
  dsimp only
  cases backL τ ms os <;> rfl
theorem callP_e (r : OV) (τ : T) : callP r (some τ) = .ok (.val r, τ) := (rfl)
theorem elemB_n (m : Nat) : elemB m [] = false := (rfl)
theorem elemB_c (m k : Nat) (l : List (Option Nat)) : elemB m (some k :: l) = ((m == k) || elemB m l) := (rfl)
theorem elemB_d (m : Nat) (l : List (Option Nat)) : elemB m (none :: l) = elemB m l := (rfl)
theorem ndB_n : ndB [] = true := (rfl)
theorem ndB_c (k : Nat) (l : List (Option Nat)) : ndB (some k :: l) = (!elemB k l && ndB l) := (rfl)
theorem ndB_d (l : List (Option Nat)) : ndB (none :: l) = ndB l := (rfl)
theorem backL_n (τ : T) : backL τ [] [] = some τ := (rfl)
theorem backL_d (τ : T) (ms : List (Option Nat)) (o : OV) (os : List OV) : backL τ (none :: ms) (o :: os) = backL τ ms os := (rfl)
theorem backL_c (τ : T) (m : Nat) (ms : List (Option Nat)) (o : OV) (os : List OV) : backL τ (some m :: ms) (o :: os) = backL (τ.set m (some o)) ms os := (rfl)
def argE (m : Nat) : Option OV → Option (List OV × List (Option Nat)) → Option (List OV × List (Option Nat))
  | some o, some (os, ms) => some (o :: os, some m :: ms)
  | _, _ => none
def argF (d : D) : Option (List OV × List (Option Nat)) → Option (List OV × List (Option Nat))
  | some (os, ms) => some (.fz d :: os, none :: ms)
  | none => none
def argG (d : D) : Option (List OV × List (Option Nat)) → Option (List OV × List (Option Nat))
  | some (os, ms) => some (.fz d :: os, ms)
  | none => none
theorem argsOf_n (τ : T) (k : Nat) (ps : List Pre) : argsOf τ k [] ps = (datas ps).map fun ds => (ds.map OV.fz, []) := by cases ps <;> rfl
theorem argsOf_s (τ : T) (k m : Nat) (ls : List Nat) (ps : List Pre) : argsOf τ k (k :: ls) (.sl m :: ps) = argE m (slotAt τ m) (argsOf τ (k + 1) ls ps) := by
  rw [argsOf, if_pos rfl]
  unfold argE
  cases slotAt τ m with
  | none => rfl
  | some o => cases argsOf τ (k + 1) ls ps <;> rfl
theorem argsOf_v (τ : T) (k : Nat) (d : D) (ls : List Nat) (ps : List Pre) : argsOf τ k (k :: ls) (.val (.fz d) :: ps) = argF d (argsOf τ (k + 1) ls ps) := by
  rw [argsOf, if_pos rfl]
  unfold argF
  cases argsOf τ (k + 1) ls ps <;> rfl
theorem argsOf_o (τ : T) (k j : Nat) (d : D) (ls : List Nat) (ps : List Pre) (h : (j == k) = false) : argsOf τ k (j :: ls) (.val (.fz d) :: ps) = argG d (argsOf τ (k + 1) (j :: ls) ps) := by
  rw [argsOf, if_neg (by simpa using h)]
  unfold argG
  cases argsOf τ (k + 1) (j :: ls) ps <;> rfl
theorem argE_e (m : Nat) (o : OV) (os : List OV) (ms : List (Option Nat)) : argE m (some o) (some (os, ms)) = some (o :: os, some m :: ms) := (rfl)
theorem argF_e (d : D) (os : List OV) (ms : List (Option Nat)) : argF d (some (os, ms)) = some (.fz d :: os, none :: ms) := (rfl)
theorem argG_e (d : D) (os : List OV) (ms : List (Option Nat)) : argG d (some (os, ms)) = some (.fz d :: os, ms) := (rfl)
/-! slices -/
theorem noneO_e (τ : T) : noneO τ = .ok (none, τ) := (rfl)
def someM (τ : T) : Option OV → Res (Option Int × T)
  | some (.fz (.int i)) => .ok (some i, τ)
  | _ => .bad
def someK : Pre × T → Res (Option Int × T) := fun (p, τ) => someM τ (vw τ (opd p))
theorem someO_e (f : FP) (τ : T) : someO f τ = (f τ).bind someK := (rfl)
theorem someK_e (p : Pre) (τ : T) : someK (p, τ) = someM τ (vw τ (opd p)) := (rfl)
theorem someM_e (τ : T) (i : Int) : someM τ (some (.fz (.int i))) = .ok (some i, τ) := (rfl)
def sliM (lo hi : Option Int) (τ : T) : Option OV → Res (Pre × T)
  | some o => (sliceS o lo hi).bind fun r => .ok (.val r, τ)
  | none => .bad
def sliL2 (p : Pre) (lo : Option Int) : Option Int × T → Res (Pre × T) := fun (hi, τ) => sliM lo hi τ (vw τ (opd p))
def sliL1 (p : Pre) (u : FO) : Option Int × T → Res (Pre × T) := fun (lo, τ) => (u τ).bind (sliL2 p lo)
def sliK (l u : FO) : Pre × T → Res (Pre × T) := fun (p, τ) => (l τ).bind (sliL1 p u)
theorem sliF_e (f : FP) (l u : FO) (τ : T) : sliF f l u τ = (f τ).bind (sliK l u) := by
  unfold sliF
  congr 1
theorem sliK_e (l u : FO) (p : Pre) (τ : T) : sliK l u (p, τ) = (l τ).bind (sliL1 p u) := (rfl)
theorem sliL1_e (p : Pre) (u : FO) (lo : Option Int) (τ : T) : sliL1 p u (lo, τ) = (u τ).bind (sliL2 p lo) := (rfl)
theorem sliL2_e (p : Pre) (lo hi : Option Int) (τ : T) : sliL2 p lo (hi, τ) = sliM lo hi τ (vw τ (opd p)) := (rfl)
theorem sliM_e (lo hi : Option Int) (τ : T) (o : OV) : sliM lo hi τ (some o) = (sliceS o lo hi).bind (valK τ) := (rfl)
/-! statements -/
theorem nxS_e (τ : T) : nxS τ = .ok (.nx, τ) := (rfl)
theorem bkS_e (τ : T) : bkS τ = .ok (.bk, τ) := (rfl)
theorem ctS_e (τ : T) : ctS τ = .ok (.ct, τ) := (rfl)
def seqK (h : FS) : Fl × T → Res (Fl × T) := fun (fl, τ) => match fl with
  | .nx => h τ
  | fl => .ok (fl, τ)
theorem seqS_e (g h : FS) (τ : T) : seqS g h τ = (g τ).bind (seqK h) := (rfl)
theorem seqK_nx (h : FS) (τ : T) : seqK h (.nx, τ) = h τ := (rfl)
theorem seqK_rt (h : FS) (r : OV) (τ : T) : seqK h (.rt r, τ) = .ok (.rt r, τ) := (rfl)
theorem seqK_bk (h : FS) (τ : T) : seqK h (.bk, τ) = .ok (.bk, τ) := (rfl)
theorem seqK_ct (h : FS) (τ : T) : seqK h (.ct, τ) = .ok (.ct, τ) := (rfl)
def ifK (g h : FS) : Bool × T → Res (Fl × T) := fun (k, τ) => if k = true then g τ else h τ
theorem ifS_e (c : FP) (g h : FS) (τ : T) : ifS c g h τ = (tru c τ).bind (ifK g h) := (rfl)
theorem ifK_t (g h : FS) (τ : T) : ifK g h (true, τ) = g τ := (rfl)
theorem ifK_f (g h : FS) (τ : T) : ifK g h (false, τ) = h τ := (rfl)
def exK : Pre × T → Res (Fl × T) := fun (_, τ) => .ok (.nx, τ)
theorem exS_e (f : FP) (τ : T) : exS f τ = (f τ).bind exK := (rfl)
theorem exK_e (p : Pre) (τ : T) : exK (p, τ) = .ok (.nx, τ) := (rfl)
def retL : OV × T → Res (Fl × T) := fun (r, τ) => .ok (.rt r, τ)
def retK (io : List Nat) : Pre × T → Res (Fl × T) := fun (p, τ) => (give io p τ).bind retL
theorem retS_e (io : List Nat) (f : FP) (τ : T) : retS io f τ = (f τ).bind (retK io) := (rfl)
theorem retK_e (io : List Nat) (p : Pre) (τ : T) : retK io (p, τ) = (give io p τ).bind retL := (rfl)
theorem retL_e (r : OV) (τ : T) : retL (r, τ) = .ok (.rt r, τ) := (rfl)
theorem retN_e (τ : T) : retN τ = .ok (.rt (.fz .non), τ) := (rfl)
theorem give_val (io : List Nat) (r : OV) (τ : T) : give io (.val r) τ = .ok (r, τ) := (rfl)
theorem give_sl (io : List Nat) (i : Nat) (τ : T) : give io (.sl i) τ = giveSlot io i τ (slotAt τ i) := (rfl)
theorem giveSlot_fz (io : List Nat) (i : Nat) (τ : T) (d : D) : giveSlot io i τ (some (.fz d)) = .ok (.fz d, τ) := (rfl)
theorem giveSlot_ls (io : List Nat) (i : Nat) (τ : T) (xs : List OV) : giveSlot io i τ (some (.ls xs)) = if i ∈ io then .bad else .ok (.ls xs, τ.set i none) := (rfl)
def takeK : D × T → Res (OV × T) := fun (d, τ) => .ok (.fz d, τ)
theorem take_tv (io : List Nat) (r : OV) (τ : T) : take io true (.val r) τ = .ok (r, τ) := (rfl)
theorem take_ts (io : List Nat) (i : Nat) (τ : T) : take io true (.sl i) τ = (settle io (.sl i) τ).bind takeK := (rfl)
theorem take_f (io : List Nat) (p : Pre) (τ : T) : take io false p τ = (settle io p τ).bind takeK := by cases p <;> rfl
theorem takeK_e (d : D) (τ : T) : takeK (d, τ) = .ok (.fz d, τ) := (rfl)
def nxK : T → Res (Fl × T) := fun τ => .ok (.nx, τ)
theorem nxK_e (τ : T) : nxK τ = .ok (.nx, τ) := (rfl)
def setL2 (io : List Nat) (i : Nat) : OV × T → Res (Fl × T) := fun (r, τ) => (putS io i r τ).bind nxK
def setK (io : List Nat) (i : Nat) (own : Bool) : Pre × T → Res (Fl × T) := fun (p, τ) => (take io own p τ).bind (setL2 io i)
theorem setS_e (io : List Nat) (i : Nat) (own : Bool) (f : FP) (τ : T) : setS io i own f τ = (f τ).bind (setK io i own) := (rfl)
theorem setK_e (io : List Nat) (i : Nat) (own : Bool) (p : Pre) (τ : T) : setK io i own (p, τ) = (take io own p τ).bind (setL2 io i) := (rfl)
theorem setL2_e (io : List Nat) (i : Nat) (r : OV) (τ : T) : setL2 io i (r, τ) = (putS io i r τ).bind nxK := (rfl)
theorem putS_e (io : List Nat) (i : Nat) (r : OV) (τ : T) (h1 : decide (i ∉ io) = true) (h2 : i < τ.length) : putS io i r τ = .ok (τ.set i (some r)) := by
  unfold putS
  rw [h1, decide_eq_true h2]
  rfl
def asgL (g : FG) : D × T → Res (Fl × T) := fun (d, τ) => (g d τ).bind nxK
def asgK (io : List Nat) (g : FG) : Pre × T → Res (Fl × T) := fun (p, τ) => (settle io p τ).bind (asgL g)
theorem asgS_e (io : List Nat) (g : FG) (f : FP) (τ : T) : asgS io g f τ = (f τ).bind (asgK io g) := (rfl)
theorem asgK_e (io : List Nat) (g : FG) (p : Pre) (τ : T) : asgK io g (p, τ) = (settle io p τ).bind (asgL g) := (rfl)
theorem asgL_e (g : FG) (d : D) (τ : T) : asgL g (d, τ) = (g d τ).bind nxK := (rfl)
theorem nameG_e (io : List Nat) (i : Nat) (d : D) (τ : T) : nameG io i d τ = putS io i (.fz d) τ := (rfl)
theorem nilG_e (τ : T) : nilG [] τ = .ok τ := (rfl)
theorem consG_e (g : FG) (h : FGs) (d : D) (ds : List D) (τ : T) : consG g h (d :: ds) τ = (g d τ).bind (h ds) := (rfl)
theorem tupG_e (n : Nat) (h : FGs) (ds : List D) (τ : T) (hl : ds.length = n) : tupG n h (.tup ds) τ = h ds τ := if_pos hl
def stM (k : Option Int) (i : Nat) (d : D) (τ : T) : Res (Fl × T) := match k with
  | some k => (setAt i k d τ).bind nxK
  | none => .bad
def stL3 (i : Nat) (d : D) : Pre × T → Res (Fl × T) := fun (r, τ) => stM (intOf (vw τ (opd r))) i d τ
def stL2 (fi : FP) (d : D) : Pre × T → Res (Fl × T) := fun (q, τ) => match q with
  | .sl i => (fi τ).bind (stL3 i d)
  | _ => .bad
def stL1 (fo fi : FP) : D × T → Res (Fl × T) := fun (d, τ) => (fo τ).bind (stL2 fi d)
def stK (io : List Nat) (fo fi : FP) : Pre × T → Res (Fl × T) := fun (p, τ) => (settle io p τ).bind (stL1 fo fi)
theorem stS_e (io : List Nat) (f fo fi : FP) (τ : T) : stS io f fo fi τ = (f τ).bind (stK io fo fi) := by
  unfold stS
  congr 1
theorem stK_e (io : List Nat) (fo fi : FP) (p : Pre) (τ : T) : stK io fo fi (p, τ) = (settle io p τ).bind (stL1 fo fi) := (rfl)
theorem stL1_e (fo fi : FP) (d : D) (τ : T) : stL1 fo fi (d, τ) = (fo τ).bind (stL2 fi d) := (rfl)
theorem stL2_e (fi : FP) (d : D) (i : Nat) (τ : T) : stL2 fi d (.sl i, τ) = (fi τ).bind (stL3 i d) := (rfl)
theorem stL3_e (i : Nat) (d : D) (r : Pre) (τ : T) : stL3 i d (r, τ) = stM (intOf (vw τ (opd r))) i d τ := (rfl)
theorem stM_e (k : Int) (i : Nat) (d : D) (τ : T) : stM (some k) i d τ = (setAt i k d τ).bind nxK := (rfl)
theorem intOf_e (k : Int) : intOf (some (.fz (.int k))) = some k := (rfl)
def setAtM (i : Nat) (k : Int) (d : D) (τ : T) : Option OV → Res T
  | some (.ls xs) => match ixN xs.length k with
    | some j => match xs[j]? with
      | some (.fz _) => .ok (τ.set i (some (.ls (xs.set j (.fz d)))))
      | _ => .bad
    | none => .bad
  | _ => .bad
def setAtN (i : Nat) (xs : List OV) (j : Nat) (d : D) (τ : T) : Option OV → Res T
  | some (.fz _) => .ok (τ.set i (some (.ls (xs.set j (.fz d)))))
  | _ => .bad
theorem setAt_e (i : Nat) (k : Int) (d : D) (τ : T) : setAt i k d τ = setAtM i k d τ (slotAt τ i) := by
  unfold setAt setAtM
  cases slotAt τ i with
  | none => rfl
  | some o => cases o <;> rfl
theorem setAtM_e (i : Nat) (k : Int) (d : D) (τ : T) (xs : List OV) (j : Nat) (h : ixN xs.length k = some j) : setAtM i k d τ (some (.ls xs)) = setAtN i xs j d τ xs[j]? := by
  unfold setAtM setAtN
  simp only [h]
theorem setAtN_e (i : Nat) (xs : List OV) (j : Nat) (d d0 : D) (τ : T) : setAtN i xs j d τ (some (.fz d0)) = .ok (τ.set i (some (.ls (xs.set j (.fz d))))) := (rfl)
def intAtM (k : Int) : Option OV → Option Int
  | some (.ls xs) => intOf (atI xs k)
  | _ => none
theorem intAt_e (i : Nat) (k : Int) (τ : T) : intAt i k τ = intAtM k (slotAt τ i) := by
  unfold intAt intAtM
  cases slotAt τ i with
  | none => rfl
  | some o => cases o <;> rfl
theorem intAtM_e (k : Int) (xs : List OV) : intAtM k (some (.ls xs)) = intOf (atI xs k) := (rfl)
def augP (op : Int → Int → Int) (i : Nat) (k a : Int) (τ : T) : Option Int → Res (Fl × T)
  | some b => (setAt i k (.int (op a b)) τ).bind nxK
  | none => .bad
def augL3 (op : Int → Int → Int) (i : Nat) (k a : Int) : Pre × T → Res (Fl × T) := fun (p, τ) => augP op i k a τ (intOf (vw τ (opd p)))
def augO (g : FP) (op : Int → Int → Int) (i : Nat) (τ : T) : Option Int → Option Int → Res (Fl × T)
  | some k, some a => (g τ).bind (augL3 op i k a)
  | _, _ => .bad
def augKey (i : Nat) (τ : T) : Option Int → Option Int
  | some k => intAt i k τ
  | none => none
def augL2 (g : FP) (op : Int → Int → Int) (i : Nat) : Pre × T → Res (Fl × T) := fun (r, τ) => augO g op i τ (intOf (vw τ (opd r))) (augKey i τ (intOf (vw τ (opd r))))
def augK (fi g : FP) (op : Int → Int → Int) : Pre × T → Res (Fl × T) := fun (q, τ) => match q with
  | .sl i => (fi τ).bind (augL2 g op i)
  | _ => .bad
theorem augS_e (fo fi g : FP) (op : Int → Int → Int) (τ : T) : augS fo fi g op τ = (fo τ).bind (augK fi g op) := by
  unfold augS
  congr 1
  funext ⟨q, τ1⟩
  cases q with
  | val r => rfl
  | sl i =>
    show (fi τ1).bind _ = (fi τ1).bind _
    congr 1
    funext ⟨r, τ2⟩
    show _ = augO g op i τ2 (intOf (vw τ2 (opd r))) (augKey i τ2 (intOf (vw τ2 (opd r))))
    dsimp only
    cases intOf (vw τ2 (opd r)) with
    | none => rfl
    | some k =>
      show (match intAt i k τ2 with | some a => _ | none => Res.bad) = augO g op i τ2 (some k) (intAt i k τ2)
      cases intAt i k τ2 with
      | none => rfl
      | some a =>
        show (g τ2).bind _ = (g τ2).bind _
        congr 1
theorem augK_e (fi g : FP) (op : Int → Int → Int) (i : Nat) (τ : T) : augK fi g op (.sl i, τ) = (fi τ).bind (augL2 g op i) := (rfl)
theorem augL2_e (g : FP) (op : Int → Int → Int) (i : Nat) (r : Pre) (τ : T) : augL2 g op i (r, τ) = augO g op i τ (intOf (vw τ (opd r))) (augKey i τ (intOf (vw τ (opd r)))) := (rfl)
theorem augKey_e (i : Nat) (τ : T) (k : Int) : augKey i τ (some k) = intAt i k τ := (rfl)
theorem augO_e (g : FP) (op : Int → Int → Int) (i : Nat) (τ : T) (k a : Int) : augO g op i τ (some k) (some a) = (g τ).bind (augL3 op i k a) := (rfl)
theorem augL3_e (op : Int → Int → Int) (i : Nat) (k a : Int) (p : Pre) (τ : T) : augL3 op i k a (p, τ) = augP op i k a τ (intOf (vw τ (opd p))) := (rfl)
theorem augP_e (op : Int → Int → Int) (i : Nat) (k a b : Int) (τ : T) : augP op i k a τ (some b) = (setAt i k (.int (op a b)) τ).bind nxK := (rfl)
def augN3 (io : List Nat) (i : Nat) (op : Int → Int → Int) (a : Int) (τ : T) : Option Int → Res (Fl × T)
  | some b => (putS io i (.fz (.int (op a b))) τ).bind nxK
  | none => .bad
def augN2 (io : List Nat) (i : Nat) (op : Int → Int → Int) (a : Int) : Pre × T → Res (Fl × T) := fun (p, τ) => augN3 io i op a τ (intOf (vw τ (opd p)))
def augN1 (io : List Nat) (i : Nat) (g : FP) (op : Int → Int → Int) (τ : T) : Option Int → Res (Fl × T)
  | some a => (g τ).bind (augN2 io i op a)
  | none => .bad
theorem augN_e (io : List Nat) (i : Nat) (g : FP) (op : Int → Int → Int) (τ : T) : augN io i g op τ = augN1 io i g op τ (intOf (slotAt τ i)) := by
  unfold augN
  cases intOf (slotAt τ i) with
  | none => rfl
  | some a =>
    show (g τ).bind _ = (g τ).bind _
    congr 1
theorem augN1_e (io : List Nat) (i : Nat) (g : FP) (op : Int → Int → Int) (τ : T) (a : Int) : augN1 io i g op τ (some a) = (g τ).bind (augN2 io i op a) := (rfl)
theorem augN2_e (io : List Nat) (i : Nat) (op : Int → Int → Int) (a : Int) (p : Pre) (τ : T) : augN2 io i op a (p, τ) = augN3 io i op a τ (intOf (vw τ (opd p))) := (rfl)
theorem augN3_e (io : List Nat) (i : Nat) (op : Int → Int → Int) (a b : Int) (τ : T) : augN3 io i op a τ (some b) = (putS io i (.fz (.int (op a b))) τ).bind nxK := (rfl)
theorem nilL_e (τ : T) : nilL τ = .ok ([], τ) := (rfl)
def consL3 (r : OV) : List OV × T → Res (List OV × T) := fun (rs, τ) => .ok (r :: rs, τ)
def consL2 (h : FO') : OV × T → Res (List OV × T) := fun (r, τ) => (h τ).bind (consL3 r)
def consL1 (io : List Nat) (own : Bool) (h : FO') : Pre × T → Res (List OV × T) := fun (p, τ) => (take io own p τ).bind (consL2 h)
theorem consL_e (io : List Nat) (own : Bool) (f : FP) (h : FO') (τ : T) : consL io own f h τ = (f τ).bind (consL1 io own h) := (rfl)
theorem consL1_e (io : List Nat) (own : Bool) (h : FO') (p : Pre) (τ : T) : consL1 io own h (p, τ) = (take io own p τ).bind (consL2 h) := (rfl)
theorem consL2_e (h : FO') (r : OV) (τ : T) : consL2 h (r, τ) = (h τ).bind (consL3 r) := (rfl)
theorem consL3_e (r : OV) (rs : List OV) (τ : T) : consL3 r (rs, τ) = .ok (r :: rs, τ) := (rfl)
def parK (io : List Nat) (is : List Nat) : List OV × T → Res (Fl × T) := fun (rs, τ) => (putL io is rs τ).bind nxK
theorem parS_e (io : List Nat) (is : List Nat) (h : FO') (τ : T) : parS io is h τ = (h τ).bind (parK io is) := (rfl)
theorem parK_e (io : List Nat) (is : List Nat) (rs : List OV) (τ : T) : parK io is (rs, τ) = (putL io is rs τ).bind nxK := (rfl)
theorem putL_nil (io : List Nat) (τ : T) : putL io [] [] τ = .ok τ := (rfl)
theorem putL_cons (io : List Nat) (i : Nat) (is : List Nat) (r : OV) (rs : List OV) (τ : T) : putL io (i :: is) (r :: rs) τ = (putS io i r τ).bind (putL io is rs) := (rfl)
/-! loops -/
def whlL (c : FP) (g : FS) (n : Nat) : Fl × T → Res (Fl × T) := fun (fl, τ) => match fl with
  | .nx => whl c g n τ
  | .ct => whl c g n τ
  | .bk => .ok (.nx, τ)
  | .rt r => .ok (.rt r, τ)
def whlK (c : FP) (g : FS) (n : Nat) : Bool × T → Res (Fl × T) := fun (k, τ) => if k = true then (g τ).bind (whlL c g n) else .ok (.nx, τ)
theorem whl_e (c : FP) (g : FS) (n : Nat) (τ : T) : whl c g (n + 1) τ = (tru c τ).bind (whlK c g n) := (rfl)
theorem whlK_t (c : FP) (g : FS) (n : Nat) (τ : T) : whlK c g n (true, τ) = (g τ).bind (whlL c g n) := (rfl)
theorem whlK_f (c : FP) (g : FS) (n : Nat) (τ : T) : whlK c g n (false, τ) = .ok (.nx, τ) := (rfl)
theorem whlL_nx (c : FP) (g : FS) (n : Nat) (τ : T) : whlL c g n (.nx, τ) = whl c g n τ := (rfl)
theorem whlL_ct (c : FP) (g : FS) (n : Nat) (τ : T) : whlL c g n (.ct, τ) = whl c g n τ := (rfl)
theorem whlL_bk (c : FP) (g : FS) (n : Nat) (τ : T) : whlL c g n (.bk, τ) = .ok (.nx, τ) := (rfl)
theorem whlL_rt (c : FP) (g : FS) (n : Nat) (r : OV) (τ : T) : whlL c g n (.rt r, τ) = .ok (.rt r, τ) := (rfl)
def forK2 (g : FG) (b : FS) (ds : List D) : Fl × T → Res (Fl × T) := fun (fl, τ) => match fl with
  | .nx => forL g b ds τ
  | .ct => forL g b ds τ
  | .bk => .ok (.nx, τ)
  | .rt r => .ok (.rt r, τ)
def forK1 (g : FG) (b : FS) (ds : List D) : T → Res (Fl × T) := fun τ => (b τ).bind (forK2 g b ds)
theorem forL_nil (g : FG) (b : FS) (τ : T) : forL g b [] τ = .ok (.nx, τ) := (rfl)
theorem forL_cons (g : FG) (b : FS) (d : D) (ds : List D) (τ : T) : forL g b (d :: ds) τ = (g d τ).bind (forK1 g b ds) := (rfl)
theorem forK1_e (g : FG) (b : FS) (ds : List D) (τ : T) : forK1 g b ds τ = (b τ).bind (forK2 g b ds) := (rfl)
theorem forK2_nx (g : FG) (b : FS) (ds : List D) (τ : T) : forK2 g b ds (.nx, τ) = forL g b ds τ := (rfl)
theorem forK2_ct (g : FG) (b : FS) (ds : List D) (τ : T) : forK2 g b ds (.ct, τ) = forL g b ds τ := (rfl)
theorem forK2_bk (g : FG) (b : FS) (ds : List D) (τ : T) : forK2 g b ds (.bk, τ) = .ok (.nx, τ) := (rfl)
theorem forK2_rt (g : FG) (b : FS) (ds : List D) (r : OV) (τ : T) : forK2 g b ds (.rt r, τ) = .ok (.rt r, τ) := (rfl)
def forK (g : FG) (b : FS) : List D × T → Res (Fl × T) := fun (ds, τ) => forL g b ds τ
theorem forS_e (h : FI) (g : FG) (b : FS) (τ : T) : forS h g b τ = (h τ).bind (forK g b) := (rfl)
theorem forK_e (g : FG) (b : FS) (ds : List D) (τ : T) : forK g b (ds, τ) = forL g b ds τ := (rfl)
def itM (τ : T) : Option (List D) → Res (List D × T)
  | some ds => .ok (ds, τ)
  | none => .bad
def itL : D × T → Res (List D × T) := fun (d, τ) => itM τ (itemsOf d)
def itK (io : List Nat) : Pre × T → Res (List D × T) := fun (p, τ) => (settle io p τ).bind itL
theorem itF_e (io : List Nat) (f : FP) (τ : T) : itF io f τ = (f τ).bind (itK io) := by
  unfold itF
  congr 1
theorem itK_e (io : List Nat) (p : Pre) (τ : T) : itK io (p, τ) = (settle io p τ).bind itL := (rfl)
theorem itL_e (d : D) (τ : T) : itL (d, τ) = itM τ (itemsOf d) := (rfl)
theorem itM_e (τ : T) (ds : List D) : itM τ (some ds) = .ok (ds, τ) := (rfl)
theorem items_tup (ds : List D) : itemsOf (.tup ds) = some ds := (rfl)
theorem items_lst (ds : List D) : itemsOf (.lst ds) = some ds := (rfl)
theorem items_str (z : Str) : itemsOf (.str z) = some (chars z) := (rfl)
/-! comprehensions -/
def compK2 (vs : List Nat) (τ1 : T) : List OV × T → Res (Pre × T) := fun (acc, τ2) => .ok (.val (.ls acc), backT (wipeT τ2 vs) τ1 vs)
def compK (io vs : List Nat) (own : Bool) (g : FG) (c : T → Res (Bool × T)) (f : FP) : List D × T → Res (Pre × T) := fun (ds, τ1) => if vs.all (noOwn τ1) && vs.all (fun i => decide (i ∉ io)) then
    (compL io vs own g c f ds [] τ1).bind (compK2 vs τ1)
  else .bad
theorem compF_e (io vs : List Nat) (own : Bool) (h : FI) (g : FG) (c : T → Res (Bool × T)) (f : FP) (τ : T) : compF io vs own h g c f τ = (h τ).bind (compK io vs own g c f) := (rfl)
theorem compK_e (io vs : List Nat) (own : Bool) (g : FG) (c : T → Res (Bool × T)) (f : FP) (ds : List D) (τ1 : T) (hz : (vs.all (noOwn τ1) && vs.all (fun i => decide (i ∉ io))) = true) : compK io vs own g c f (ds, τ1) = (compL io vs own g c f ds [] τ1).bind (compK2 vs τ1) := if_pos hz
theorem compK2_e (vs : List Nat) (τ1 τ2 : T) (acc : List OV) : compK2 vs τ1 (acc, τ2) = .ok (.val (.ls acc), backT (wipeT τ2 vs) τ1 vs) := (rfl)
theorem yesT_e (τ : T) : yesT τ = .ok (true, τ) := (rfl)
/-! values -/
theorem truth_bl (b : Bool) : truthOf (.fz (.bl b)) = .ok b := (rfl)
theorem eqv_int (i j : Int) : D.eqv (.int i) (.int j) = (i == j) := by
  unfold D.eqv D.py
  simp [PyData.eqv]
theorem dep_int (i : Int) : D.dep (.int i) = 0 := by
  unfold D.dep D.py
  simp [PyData.depth]
theorem eqS_int (i j : Int) : eqS (.fz (.int i)) (.fz (.int j)) = .ok (.fz (.bl (i == j))) := by
  unfold eqS depOk
  simp only [OV.er, dep_int, eqv_int]
  rfl
theorem neS_int (i j : Int) : neS (.fz (.int i)) (.fz (.int j)) = .ok (.fz (.bl (!(i == j)))) := by
  unfold neS depOk
  simp only [OV.er, dep_int, eqv_int]
  rfl
theorem lt_int (i j : Int) : D.lt (.int i) (.int j) = decide (i < j) := by
  unfold D.lt D.py
  exact PySem.W.dataLt_int i j
theorem cmpOk_int (i j : Int) : cmpOk (.int i) (.int j) = true := by
  unfold cmpOk depOk
  simp only [dep_int]
  simp [D.py, PySem.W.alike]
theorem ltS_int (i j : Int) : ltS (.fz (.int i)) (.fz (.int j)) = .ok (.fz (.bl (decide (i < j)))) := by
  unfold ltS
  simp only [OV.er, cmpOk_int, lt_int, gd_true]
theorem gtS_int (i j : Int) : gtS (.fz (.int i)) (.fz (.int j)) = .ok (.fz (.bl (decide (j < i)))) := by
  unfold gtS
  simp only [OV.er, cmpOk_int, lt_int, gd_true]
theorem leS_int (i j : Int) : leS (.fz (.int i)) (.fz (.int j)) = .ok (.fz (.bl (!decide (j < i)))) := by
  unfold leS
  simp only [OV.er, cmpOk_int, lt_int, gd_true]
theorem geS_int (i j : Int) : geS (.fz (.int i)) (.fz (.int j)) = .ok (.fz (.bl (!decide (i < j)))) := by
  unfold geS
  simp only [OV.er, cmpOk_int, lt_int, gd_true]
theorem addS_int (i j : Int) : addS (.fz (.int i)) (.fz (.int j)) = .ok (.fz (.int (i + j))) := (rfl)
theorem subS_int (i j : Int) : subS (.fz (.int i)) (.fz (.int j)) = .ok (.fz (.int (i - j))) := (rfl)
theorem mulS_int (i j : Int) : mulS (.fz (.int i)) (.fz (.int j)) = gd (mulOk i j) (.fz (.int (i * j))) := (rfl)
theorem divS_int (i j : Int) : divS (.fz (.int i)) (.fz (.int j)) = gd (decide (0 < j ∧ j.natAbs.log2 < 9000)) (.fz (.int (i / j))) := (rfl)
theorem modS_int (i j : Int) : modS (.fz (.int i)) (.fz (.int j)) = gd (decide (0 < j)) (.fz (.int (i % j))) := (rfl)
theorem powS_int (i j : Int) : powS (.fz (.int i)) (.fz (.int j)) = gd (decide (0 ≤ j ∧ j ≤ 1000000 ∧ i.natAbs < 2 ^ 64)) (.fz (.int (i ^ j.toNat))) := (rfl)
theorem mulOk_l {i j : Int} (h1 : -(2 ^ 64) < i) (h2 : i < 2 ^ 64) : mulOk i j = true := by unfold mulOk; exact decide_eq_true (.inl ⟨h1, h2⟩)
theorem mulOk_r {i j : Int} (h1 : -(2 ^ 64) < j) (h2 : j < 2 ^ 64) : mulOk i j = true := by unfold mulOk; exact decide_eq_true (.inr (.inl ⟨h1, h2⟩))
theorem intS_int (i : Int) : intS [.fz (.int i)] = .ok (.fz (.int i)) := (rfl)
theorem intS_bl (b : Bool) : intS [.fz (.bl b)] = .ok (.fz (.int (if b then 1 else 0))) := (rfl)
def idxM : Option OV → Res OV
  | some (.fz d) => .ok (.fz d)
  | _ => .bad
def idxD : Option D → Res OV
  | some d => .ok (.fz d)
  | none => .bad
theorem idx_ls (xs : List OV) (i : Int) : idxS (.ls xs) (.fz (.int i)) = idxM (atI xs i) := by
  unfold idxS idxM
  dsimp only
  all_goals (cases atI xs i with
    | none => rfl
    | some o => cases o <;> rfl)
theorem idx_lst (xs : List D) (i : Int) : idxS (.fz (.lst xs)) (.fz (.int i)) = idxD (atI xs i) := by
  unfold idxS idxD
  dsimp only
  all_goals (cases atI xs i <;> rfl)
theorem idx_tup (xs : List D) (i : Int) : idxS (.fz (.tup xs)) (.fz (.int i)) = idxD (atI xs i) := by
  unfold idxS idxD
  dsimp only
  all_goals (cases atI xs i <;> rfl)
theorem idxM_e (d : D) : idxM (some (.fz d)) = .ok (.fz d) := (rfl)
theorem idxD_e (d : D) : idxD (some d) = .ok (.fz d) := (rfl)
theorem atI0 {α : Type} (a : α) (l : List α) : atI (a :: l) 0 = some a := by simp [atI, ixN]
theorem atI1 {α : Type} (a b : α) (l : List α) : atI (a :: b :: l) 1 = some b := by
  unfold atI ixN
  rw [if_pos (by decide), if_pos (by simp; omega)]
  rfl
theorem atI2 {α : Type} (a b c : α) (l : List α) : atI (a :: b :: c :: l) 2 = some c := by
  unfold atI ixN
  rw [if_pos (by decide), if_pos (by simp; omega)]
  rfl
theorem atI3 {α : Type} (a b c d : α) (l : List α) : atI (a :: b :: c :: d :: l) 3 = some d := by
  unfold atI ixN
  rw [if_pos (by decide), if_pos (by simp; omega)]
  rfl
theorem atI_lt {α : Type} {xs : List α} {i : Int} (h0 : 0 ≤ i) (h1 : i < xs.length) : atI xs i = xs[i.toNat]? := by
  unfold atI ixN
  rw [if_pos h0, if_pos h1]
  rfl
theorem slice_tup (ds : List D) (lo hi : Option Int) : sliceS (.fz (.tup ds)) lo hi = .ok (.fz (.tup (cutD ds lo hi))) := (rfl)
theorem slice_lst (ds : List D) (lo hi : Option Int) : sliceS (.fz (.lst ds)) lo hi = .ok (.ls ((cutD ds lo hi).map OV.fz)) := (rfl)
theorem listOf_ls (ds : List D) : listOf (.ls (ds.map OV.fz)) = some ds := allFz_map ds
theorem listOf_lst (ds : List D) : listOf (.fz (.lst ds)) = some ds := (rfl)
theorem add_lst (xs : List D) (o : OV) (ys : List D) (h : listOf o = some ys) (hz : xs.length + ys.length ≤ sizeLine) : addS (.fz (.lst xs)) o = .ok (.ls ((xs ++ ys).map OV.fz)) := by
  show catS _ _ = _
  unfold catS
  rw [listOf_lst, h]
  dsimp only
  rw [decide_eq_true hz]
  rfl
end Pf
namespace Pf
open PySem PySem.Spec PyProof.Rows L2
theorem ers_nil : OV.ers [] = [] := (rfl)
theorem ers_cons (o : OV) (os : List OV) : OV.ers (o :: os) = o.er :: OV.ers os := (rfl)
theorem ers_map (ds : List D) : OV.ers (ds.map OV.fz) = ds := OV.ers_fz ds
theorem cat_lst (xs ys : List D) : addS (.fz (.lst xs)) (.fz (.lst ys)) = gd (decide (xs.length + ys.length ≤ sizeLine)) (.ls ((xs ++ ys).map OV.fz)) := (rfl)
theorem cat_tup (xs ys : List D) : addS (.fz (.tup xs)) (.fz (.tup ys)) = gd (decide (xs.length + ys.length ≤ sizeLine)) (.fz (.tup (xs ++ ys))) := (rfl)
theorem size_ok (n : Nat) (h : n ≤ 1000000) : decide (n ≤ sizeLine) = true := decide_eq_true (Nat.le_trans h (by decide))
theorem ix0 (n : Nat) : ixN (n + 1) 0 = some 0 := by
  unfold ixN
  rw [if_pos (by decide), if_pos (by omega)]
  rfl
theorem ix1 (n : Nat) : ixN (n + 1 + 1) 1 = some 1 := by
  unfold ixN
  rw [if_pos (by decide), if_pos (by omega)]
  rfl
theorem ix2 (n : Nat) : ixN (n + 1 + 1 + 1) 2 = some 2 := by
  unfold ixN
  rw [if_pos (by decide), if_pos (by omega)]
  rfl
theorem set_0 (i : Nat) (d d0 : D) (τ : T) (xs : List OV) : setAtM i 0 d τ (some (.ls (.fz d0 :: xs))) = .ok (τ.set i (some (.ls (.fz d :: xs)))) := by
  rw [setAtM_e i 0 d τ _ 0 (ix0 _)]
  rfl
theorem set_1 (i : Nat) (d d0 : D) (τ : T) (x : OV) (xs : List OV) : setAtM i 1 d τ (some (.ls (x :: .fz d0 :: xs))) = .ok (τ.set i (some (.ls (x :: .fz d :: xs)))) := by
  rw [setAtM_e i 1 d τ _ 1 (ix1 _)]
  rfl
theorem set_2 (i : Nat) (d d0 : D) (τ : T) (x y : OV) (xs : List OV) : setAtM i 2 d τ (some (.ls (x :: y :: .fz d0 :: xs))) = .ok (τ.set i (some (.ls (x :: y :: .fz d :: xs)))) := by
  rw [setAtM_e i 2 d τ _ 2 (ix2 _)]
  rfl
/-! a body at its end -/
def runL (r : OV) : List OV → Res (OV × List OV) := fun o => .ok (r, o)
def runK (l : List Nat) : Fl × T → Res (OV × List OV) := fun (fl, τ) => match fl with
  | .rt r => (lentAt τ l).bind (runL r)
  | .nx => (lentAt τ l).bind (runL (.fz .non))
  | _ => .bad
theorem runF_e (m n : Nat) (l : List Nat) (g : FS) (os : List OV) (h : (decide (os.length = n) && l.all (fun j => decide (j < n))) = true) : runF m n l g os = (g (os.map some ++ List.replicate (m - n) none)).bind (runK l) := by
  rw [Bool.and_eq_true] at h
  unfold runF
  rw [if_pos ⟨of_decide_eq_true h.1, h.2⟩]
  congr 1
theorem runK_rt (l : List Nat) (r : OV) (τ : T) : runK l (.rt r, τ) = (lentAt τ l).bind (runL r) := (rfl)
theorem runK_nx (l : List Nat) (τ : T) : runK l (.nx, τ) = (lentAt τ l).bind (runL (.fz .non)) := (rfl)
theorem runL_e (r : OV) (o : List OV) : runL r o = .ok (r, o) := (rfl)
def lentK2 (o : OV) : List OV → Res (List OV) := fun os => .ok (o :: os)
def lentK (τ : T) (l : List Nat) : Option OV → Res (List OV)
  | some o => (lentAt τ l).bind (lentK2 o)
  | none => .bad
theorem lent_n (τ : T) : lentAt τ [] = .ok [] := (rfl)
theorem lent_c (τ : T) (j : Nat) (l : List Nat) : lentAt τ (j :: l) = lentK τ l (slotAt τ j) := by
  unfold lentK
  rw [lentAt]
  cases slotAt τ j <;> rfl
theorem lentK_e (τ : T) (l : List Nat) (o : OV) : lentK τ l (some o) = (lentAt τ l).bind (lentK2 o) := (rfl)
theorem lentK2_e (o : OV) (os : List OV) : lentK2 o os = .ok (o :: os) := (rfl)
theorem wipe_n (τ : T) : wipeT τ [] = τ := (rfl)
theorem wipe_c (τ : T) (v : Nat) (vs : List Nat) : wipeT τ (v :: vs) = (wipeT τ vs).set v none := (rfl)
theorem back_n (τ τ0 : T) : backT τ τ0 [] = τ := (rfl)
theorem back_c (τ τ0 : T) (v : Nat) (vs : List Nat) : backT τ τ0 (v :: vs) = (backT τ τ0 vs).set v (slotAt τ0 v) := (rfl)
end Pf

/-! Pf16: methods of a slot's own list; sorted. -/
namespace Pf
open PySem PySem.Spec PyProof.Rows L2

/-- a method of a list that is changed where it stands: k of its items and of the data handed in gives the answer and the new items -/
def MthS (X : Cx) (id : String) (k : List OV → List D → Res (D × List OV)) : Prop :=
  ∀ (pins : List (Addr × Obj)) (s : Shared) (σ : L2.St) (F H : Hp) (a : Addr) (vs ws : List V) (us : List Value) (xs ys : List OV) (ds : List D) (d : D) (bs : List Addr) (Q : VK), Inv X pins σ H s → Same F H → H a = some (.lst vs) → Owns X.K F H xs vs bs → Vals ws us → Reps X.K F ds ws → k xs ds = .ok (d, ys) →
    (∀ z vs', Rep X.K F d z → Owns X.K F H ys vs' bs → Q z (upd H a (.lst vs'))) → wpAny (model X.prog X.w) X.A (call (.builtin id) (.ref a :: us)) (EP X pins σ Q) X.xe s
def mthF (i : Nat) (h : FA) (k : List OV → List D → Res (D × List OV)) : FP := fun τ => match slotAt τ i with
  | some (.ls _) => (h τ).bind fun (ps, τ1) => match slotAt τ1 i, datas ps with
    | some (.ls xs), some ds => (k xs ds).bind fun (d, ys) => .ok (.val (.fz d), τ1.set i (some (.ls ys)))
    | _, _ => .bad
  | _ => .bad
section
variable {X : Cx} {io : List Nat}
theorem reps_one {K : PySem.W.Frag} {F : Hp} {d : D} {ws : List V} (r : Reps K F [d] ws) : ∃ w, ws = [w] ∧ Rep K F d w := by
  rw [Reps] at r
  obtain ⟨w, us, rfl, q, rs⟩ := r
  rw [Reps] at rs
  subst rs
  exact ⟨w, rfl, q⟩
def appendM (xs : List OV) : List D → Res (D × List OV)
  | [d] => gd (decide (xs.length < sizeLine)) (.non, xs ++ [.fz d])
  | _ => .bad
theorem mth_append : MthS X "list.append" appendM := by
  intro pins s σ F H a vs ws us xs ys ds d bs Q I sm hH w rv r e q
  unfold appendM at e
  split at e
  · rename_i d0
    obtain ⟨hz, e⟩ := gd_ok e
    cases e
    obtain ⟨z, rfl, rz⟩ := reps_one r
    refine mt_append pins s σ H (.ref a) _ (.ref a) us Q I rfl rv ⟨a, vs, z, rfl, rfl, hH, by rw [← w.length]; exact of_decide_eq_true hz, q _ _ (by rw [Rep]) ?_⟩
    exact Owns.append_reps (Reps.cons rz Reps.nil) w
  · cases e
def extendM (xs : List OV) : List D → Res (D × List OV)
  | [.lst es] => gd (decide (xs.length + es.length ≤ sizeLine)) (.non, xs ++ es.map OV.fz)
  | _ => .bad
theorem mth_extend : MthS X "list.extend" extendM := by
  intro pins s σ F H a vs ws us xs ys ds d bs Q I sm hH w rv r e q
  unfold extendM at e
  split at e
  · rename_i es
    obtain ⟨hz, e⟩ := gd_ok e
    cases e
    have hz := of_decide_eq_true hz
    obtain ⟨z, rfl, rz⟩ := reps_one r
    rw [Rep] at rz
    obtain ⟨b, zs, rfl, l, rs⟩ := rz
    obtain ⟨u, rfl, ru⟩ := rv.one
    cases ru
    obtain ⟨z1, its, n, r1, hl, e1⟩ := I.lstM hH
    obtain ⟨z2, its2, n2, r2, hl2, e2⟩ := LsR.exact I (l.mono sm)
    have lx := w.length
    have lz := rs.length
    have hsz : its.toArray.size + its2.toArray.size ≤ sizeLine := by rw [List.size_toArray, List.size_toArray]; omega
    have short : ¬ (!its.toArray.isEmpty && Builtin.List.listTooLong (its.toArray.size + its2.toArray.size)) = true := by
      rw [notLongL hsz, Bool.and_false]; simp
    refine call_meets PySem.F.slot_list_extend ⟨_, e1, rfl⟩ PySem.F.entry_list_extend (PySem.F.args_list_extend_2 _ _)
      (AutoSeq1.list_extend_list_list_0 a its.toArray n b its2.toArray n2 short (by rw [List.size_toArray]; omega) (by omega)) ⟨e1, e2, ?_⟩
    exact ⟨.non, _, I.lset (its' := its ++ its2) hH e1 (by simp) (r1.append r2) (by rw [List.length_append]; omega), rfl, q _ _ (by rw [Rep]) (Owns.append_reps rs w)⟩
  · cases e
theorem Owns.insFz {K : PySem.W.Frag} {F H : Hp} {d : D} {v : V} (r : Rep K F d v) : ∀ {n : Nat} {os : List OV} {vs : List V} {bs : List Addr}, Owns K F H os vs bs → Owns K F H (os.take n ++ [.fz d] ++ os.drop n) (vs.take n ++ [v] ++ vs.drop n) bs
  | 0, os, vs, bs, h => by
    rw [List.take_zero, List.take_zero, List.drop_zero, List.drop_zero, List.nil_append, List.nil_append, List.singleton_append, List.singleton_append, Owns]
    exact ⟨v, vs, [], bs, rfl, rfl, Own.of_rep r, h, fun _ z => (nomatch z)⟩
  | n + 1, [], vs, bs, h => by
    rw [Owns] at h
    obtain ⟨rfl, rfl⟩ := h
    rw [List.take_nil, List.take_nil, List.drop_nil, List.drop_nil, List.append_nil, List.append_nil, List.nil_append, List.nil_append, Owns]
    refine ⟨v, [], [], [], rfl, rfl, Own.of_rep r, ?_, fun _ z => (nomatch z)⟩
    rw [Owns]; exact ⟨rfl, rfl⟩
  | n + 1, x :: xs, vs, bs, h => by
    rw [Owns] at h
    obtain ⟨w, ws, b1, b2, rfl, rfl, q, qs, m⟩ := h
    rw [List.take_succ_cons, List.take_succ_cons, List.drop_succ_cons, List.drop_succ_cons, List.cons_append, List.cons_append, List.cons_append, List.cons_append, Owns]
    exact ⟨w, _, b1, b2, rfl, rfl, q, Owns.insFz r qs, m⟩
def insertM (xs : List OV) : List D → Res (D × List OV)
  | [.int i, d] => gd (decide (0 ≤ i ∧ i < 2 ^ 62 ∧ xs.length < sizeLine)) (.non, xs.take i.toNat ++ [.fz d] ++ xs.drop i.toNat)
  | _ => .bad
theorem mth_insert : MthS X "list.insert" insertM := by
  intro pins s σ F H a vs ws us xs ys ds d bs Q I sm hH w rv r e q
  unfold insertM at e
  split at e
  · rename_i i d0
    obtain ⟨hz, e⟩ := gd_ok e
    cases e
    obtain ⟨h0, h1, h2⟩ := of_decide_eq_true hz
    rw [Reps] at r
    obtain ⟨z, zs, rfl, rz, rs⟩ := r
    obtain ⟨y, rfl, ry⟩ := reps_one rs
    rw [Rep] at rz
    subst rz
    have lx := w.length
    exact mt_insert pins s σ H (.ref a) _ (.ref a) us Q I rfl rv ⟨a, vs, i, y, rfl, rfl, hH, by omega, h0, by omega, q _ _ (by rw [Rep]) (w.insFz ry)⟩
  · cases e
theorem Owns.popFz {K : PySem.W.Frag} {F H : Hp} {d : D} : ∀ {os : List OV} {vs : List V} {bs : List Addr}, Owns K F H os vs bs → os[os.length - 1]? = some (.fz d) → ∃ v, vs[vs.length - 1]? = some v ∧ Rep K F d v ∧ Owns K F H os.dropLast vs.dropLast bs
  | [], _, _, _, e => by simp at e
  | [x], vs, bs, h, e => by
    rw [Owns] at h
    obtain ⟨w, ws, b1, b2, rfl, rfl, q, qs, m⟩ := h
    rw [Owns] at qs
    obtain ⟨rfl, rfl⟩ := qs
    have e : x = .fz d := by simpa using e
    subst e
    rw [Own.fz_iff] at q
    refine ⟨w, rfl, q.2, ?_⟩
    rw [q.1]
    show Owns K F H [] [] []
    rw [Owns]; exact ⟨rfl, rfl⟩
  | x :: y :: xs, vs, bs, h, e => by
    rw [Owns] at h
    obtain ⟨w, ws, b1, b2, rfl, rfl, q, qs, m⟩ := h
    have e2 : (y :: xs)[(y :: xs).length - 1]? = some (.fz d) := by simpa using e
    obtain ⟨v, e3, r, t⟩ := Owns.popFz qs e2
    cases ws with
    | nil => simp at e3
    | cons w2 ws =>
      refine ⟨v, by simpa using e3, r, ?_⟩
      rw [List.dropLast_cons₂, List.dropLast_cons₂, Owns]
      exact ⟨w, _, b1, b2, rfl, rfl, q, t, m⟩
def lastOf (xs : List OV) : Option OV := xs[xs.length - 1]?
def popM (xs : List OV) : List D → Res (D × List OV)
  | [] => match lastOf xs with
    | some (.fz d) => .ok (d, xs.dropLast)
    | _ => .bad
  | _ => .bad
theorem mth_pop : MthS X "list.pop" popM := by
  intro pins s σ F H a vs ws us xs ys ds d bs Q I sm hH w rv r e q
  unfold popM at e
  split at e
  · rw [Reps] at r
    subst r
    split at e
    · rename_i d0 hl
      cases e
      obtain ⟨v, ev, rz, t⟩ := w.popFz hl
      exact mt_pop pins s σ H (.ref a) _ (.ref a) us Q I rfl rv ⟨a, vs, v, rfl, rfl, hH, ev, q _ _ rz t⟩
    · cases e
  · cases e
theorem mth_open {id : String} {k : List OV → List D → Res (D × List OV)} {i : Nat} {h : FA} {σ : L2.St} {H : Hp} {Q : VK} (hm : MthS X id k) (w : rdP X.K io (mthF i h k) σ H Q) :
    rdP X.K io (eSlot i) σ H fun x H1 => tyV X.K "list" x H1 ∧ rdA X.K io h σ H1 fun ws H2 => ∃ F a vs xs ys ds d bs, x = .ref a ∧ Same F H2 ∧ H2 a = some (.lst vs) ∧ Owns X.K F H2 xs vs bs ∧ Reps X.K F ds ws ∧ k xs ds = .ok (d, ys) ∧ ∀ z vs', Rep X.K F d z → Owns X.K F H2 ys vs' bs → Q z (upd H2 a (.lst vs')) := by
  obtain ⟨C, F, fp, τ, p, τ', hio, R, e, q⟩ := w
  unfold mthF at e
  cases hs : slotAt τ i with
  | none => rw [hs] at e; cases e
  | some o =>
    cases o with
    | fz d => rw [hs] at e; cases e
    | ls xs0 =>
      rw [hs] at e
      obtain ⟨⟨ps, τ1⟩, e1, e⟩ := Res.bind_ok e
      refine ⟨C, F, fp, τ, .sl i, τ, hio, R, by unfold eSlot; rw [hs], fun F1 fp1 H1 x R1 s1 w1 => ?_⟩
      obtain ⟨a, vs0, bs0, hx, _, hH, _, _⟩ := R1.listSlot hs
      have hx' : σ[i]? = some (some x) := w1
      rw [hx] at hx'
      cases hx'
      refine ⟨.inl ⟨rfl, vs0, SqL.of hH⟩, C, F1, fp1, τ, ps, τ1, hio, R1, e1, fun F2 fp2 H2 ws R2 s2 w2 => ?_⟩
      dsimp only at e
      cases hs2 : slotAt τ1 i with
      | none => rw [hs2] at e; cases e
      | some o2 =>
        cases o2 with
        | fz d => rw [hs2] at e; cases e
        | ls xs =>
          cases hd : datas ps with
          | none => rw [hs2, hd] at e; cases e
          | some ds =>
            rw [hs2, hd] at e
            obtain ⟨⟨d, ys⟩, e3, e4⟩ := Res.bind_ok e
            cases e4
            obtain ⟨a2, vs, bs, hx2, hfp, hH2, hn, rs⟩ := R2.listSlot hs2
            have ea : some (some (V.ref a2)) = some (some (V.ref a)) := hx2.symm.trans hx
            cases ea
            refine ⟨F2, a, vs, xs, ys, ds, d, bs, rfl, R2.sub, hH2, rs, w2.datas hd, e3, fun z vs' rz t => ?_⟩
            have R3 := R2.write hs2 hfp t hn hx
            exact q F2 fp2 _ z R3 (s1.trans s2) ⟨[], rz.tmp⟩
theorem attr_no {o : Expr} {name : Str} {env : Env} {w : Sem Value} (h : ∃ x p, o = .Name x p) (hr : ∀ x p, o = .Name x p → attributeBase (.Name x p) name env (eval (.Name x p) env) = eval (.Name x p) env) : attributeBase o name env (eval o env) = eval o env := by
  obtain ⟨x, p, rfl⟩ := h
  exact hr x p rfl
/-- x.m(e, ..) -/
theorem xp_mth {id : String} {k : List OV → List D → Res (D × List OV)} {i : Nat} {x m : Str} {e : Expr} {es : List Expr} {h : FA} {p apos cpos : Pos} (slot : Slot "list" m id) (hty : typeOf (.builtin id) = pure (.type "method_descriptor")) (hm : MthS X id k) (ho : XP X io (.Name x p) (eSlot i)) (ha : XA X io (e :: es) h)
    (hn : (e :: es).all notStar = true) (hbase : attributeBase (.Name x p) m X.env (eval (.Name x p) X.env) = eval (.Name x p) X.env) (hline : (apos.endLine == cpos.line) = true) (hlen : decide ((e :: es).length < 30) = true) : XP X io (.Call (.Attribute (.Name x p) m apos) (e :: es) [] cpos) (mthF i h k) := by
  have hn' := hn
  rw [List.all_cons, Bool.and_eq_true] at hn'
  refine pe_weak (pe_bm (r := fun x ws H2 Q => ∃ F a vs xs ys ds d bs, x = .ref a ∧ Same F H2 ∧ H2 a = some (.lst vs) ∧ Owns X.K F H2 xs vs bs ∧ Reps X.K F ds ws ∧ k xs ds = .ok (d, ys) ∧ ∀ z vs', Rep X.K F d z → Owns X.K F H2 ys vs' bs → Q z (upd H2 a (.lst vs'))) PySem.F.plainAttrs_list slot hty ?_ ho ha hbase ?_ hline (star_cons hn'.1) (star_any hn'.2)) fun σ H Q w => mth_open hm w
  · intro pins s σ H x ws v us Q I rx rv hq
    obtain ⟨F, a, vs, xs, ys, ds, d, bs, rfl, sm, hH, w, r, e, q⟩ := hq
    cases rx
    exact hm pins s σ F H a vs ws us xs ys ds d bs Q I sm hH w rv r e q
  · rw [star_all hn, Bool.true_and]
    show (true && decide ((e :: es).length + 0 + 0 < 30)) = true
    simpa using hlen
/-- x.m() -/
theorem xp_mth0 {id : String} {k : List OV → List D → Res (D × List OV)} {i : Nat} {x m : Str} {p apos cpos : Pos} (slot : Slot "list" m id) (hty : typeOf (.builtin id) = pure (.type "method_descriptor")) (hm : MthS X id k) (ho : XP X io (.Name x p) (eSlot i))
    (hbase : attributeBase (.Name x p) m X.env (eval (.Name x p) X.env) = eval (.Name x p) X.env) (hline : (apos.endLine == cpos.line) = true) : XP X io (.Call (.Attribute (.Name x p) m apos) [] [] cpos) (mthF i nilA k) := by
  refine pe_weak (pe_bm0 (r := fun x ws H2 Q => ∃ F a vs xs ys ds d bs, x = .ref a ∧ Same F H2 ∧ H2 a = some (.lst vs) ∧ Owns X.K F H2 xs vs bs ∧ Reps X.K F ds ws ∧ k xs ds = .ok (d, ys) ∧ ∀ z vs', Rep X.K F d z → Owns X.K F H2 ys vs' bs → Q z (upd H2 a (.lst vs'))) PySem.F.plainAttrs_list slot hty ?_ ho hbase hline) fun σ H Q w => ?_
  · intro pins s σ H x ws v us Q I rx rv hq
    obtain ⟨F, a, vs, xs, ys, ds, d, bs, rfl, sm, hH, w, r, e, q⟩ := hq
    cases rx
    exact hm pins s σ F H a vs ws us xs ys ds d bs Q I sm hH w rv r e q
  · obtain ⟨C, F, fp, τ, p, τ', hio, R, e, q⟩ := mth_open hm w
    refine ⟨C, F, fp, τ, p, τ', hio, R, e, fun F1 fp1 H1 x R1 s1 w1 => ?_⟩
    obtain ⟨ty, C2, F2, fp2, τ2, ps, τ3, hio2, R2, e2, q2⟩ := q F1 fp1 H1 x R1 s1 w1
    cases e2
    exact ⟨ty, q2 F2 fp2 H1 [] R2 (Same.refl _) rfl⟩
end
end Pf

/-! Pf17: sorted; an item of a slot's list of lists takes one more. -/
namespace Pf
open PySem PySem.Spec PyProof.Rows L2

/-! ### sorted -/
def isTup1 : D → Bool
  | .tup (_ :: _) => true
  | _ => false
def isOther : D → Bool
  | .non => false
  | .tup _ => false
  | _ => true
def allAlike (ds : List D) : Bool := ds.all fun d => ds.all fun e => PySem.W.alike d.py e.py
def sortD (ds : List D) : List D := ds.mergeSort (PySem.W.dataLe false D.py)
def sortS : List OV → Res OV
  | [o] => match listOf o with
    | some ds => gd (decide (ds.length ≤ sizeLine) && (allAlike ds && ((ds.all isTup1 || ds.all isOther) && ds.all fun d => decide (d.dep ≤ 60)))) (.ls ((sortD ds).map OV.fz))
    | none => .bad
  | _ => .bad
section
variable {X : Cx}
theorem isTup1_py {d : D} (h : isTup1 d = true) : ∃ x r, d.py = .tuple (x :: r) := by
  unfold isTup1 at h
  split at h
  · rename_i x r
    exact ⟨x.py, D.pys r, by rw [D.py, D.pys]⟩
  · cases h
theorem isOther_py {d : D} (h : isOther d = true) : d.py ≠ .none ∧ ∀ xs, d.py ≠ .tuple xs := by
  cases d with
  | non => cases h
  | tup xs => cases h
  | bl b => rw [D.py]; exact ⟨by simp, by simp⟩
  | int i => rw [D.py]; exact ⟨by simp, by simp⟩
  | str x => rw [D.py]; exact ⟨by simp, by simp⟩
  | lst xs => rw [D.py]; exact ⟨by simp, by simp⟩
theorem each_of {K : PySem.W.Frag} {F : Hp} {R : Value → D → Prop} (h : ∀ v u d, Rep K F d v → L2.RelV v u → R u d) : ∀ {ds : List D} {vs : List V} {us : List Value}, Reps K F ds vs → Vals vs us → PySem.W.EachIs R us ds
  | [], vs, us, r, w => by
    rw [Reps] at r
    subst r
    cases w
    exact .nil
  | d :: ds, vs, us, r, w => by
    rw [Reps] at r
    obtain ⟨v, ws, rfl, q, qs⟩ := r
    cases w with
    | cons a b => exact .cons (h _ _ _ q a) (each_of h qs b)
theorem each_to {K : PySem.W.Frag} {F : Hp} : ∀ {ds : List D} {us : List Value}, PySem.W.EachIs (fun u d => ∃ v, Rep K F d v ∧ L2.RelV v u) us ds → ∃ vs, Reps K F ds vs ∧ Vals vs us
  | _, _, .nil => ⟨[], Reps.nil, .nil⟩
  | _, _, .cons ⟨v, q, r⟩ t => by
    obtain ⟨vs, qs, rs⟩ := each_to t
    exact ⟨v :: vs, Reps.cons q qs, .cons r rs⟩
theorem cs_sorted (hu : X.A.units + 65 < cLine) : CallS X (.builtin "sorted") sortS := by
  intro pins s σ F H vs us os r Q I sm rv wv e q
  unfold sortS at e
  split at e
  · rename_i o
    obtain ⟨v, rfl, w⟩ := wv.one
    cases hl : listOf o with
    | none => rw [hl] at e; cases e
    | some ds =>
      rw [hl] at e
      obtain ⟨hz, rfl⟩ := gd_ok e
      simp only [Bool.and_eq_true, Bool.or_eq_true, decide_eq_true_eq] at hz
      obtain ⟨hz, ha, hs, hd⟩ := hz
      obtain ⟨a, xs, rfl, l, rs⟩ := w.list sm hl
      obtain ⟨its, rr, pl, _⟩ := I.list l.sql
      rw [Vals.ref1 rv]
      have alike : PySem.W.AllAlike (ds.map D.py) := fun d h1 d' h2 => by
        obtain ⟨x, hx, rfl⟩ := List.mem_map.mp h1
        obtain ⟨y, hy, rfl⟩ := List.mem_map.mp h2
        exact List.all_eq_true.mp (List.all_eq_true.mp ha x hx) y hy
      have srt : PySem.W.Sortable (ds.map D.py) := by
        rcases hs with h | h
        · refine .inl fun d h1 => ?_
          obtain ⟨x, hx, rfl⟩ := List.mem_map.mp h1
          exact isTup1_py (List.all_eq_true.mp h x hx)
        · refine .inr fun d h1 => ?_
          obtain ⟨x, hx, rfl⟩ := List.mem_map.mp h1
          exact isOther_py (List.all_eq_true.mp h x hx)
      have deep : ∀ b, b ∈ ds → X.A.units + 2 + b.py.depth < cLine := fun b hb => by
        have : b.py.depth ≤ 60 := of_decide_eq_true (List.all_eq_true.mp hd b hb)
        omega
      have e1 : PySem.W.EachIs (fun u d => ∃ v, Rep X.K F d v ∧ L2.RelV v u) its ds := each_of (fun v u d h1 h2 => ⟨v, h1, h2⟩) rs rr
      have e2 : PySem.W.EachIs (fun u d => ∃ as, Reads s.heap u d.py as) its ds := each_of (fun v u d h1 h2 => h1.reads I sm h2) rs rr
      refine PySem.W.sorted_data pl.isList e1 e2 alike srt hz deep fun out hlen eo => ?_
      obtain ⟨ys, qs, vs'⟩ := each_to eo
      obtain ⟨ep, he⟩ := PyProof.Rows.sortedAll_at s.heap its out.toArray
      have hyl : ys.length ≤ sizeLine := by rw [vs'.length, hlen]; exact hz
      have hf : H (s.heap.objs.size + 1) = none := I.hok.fresh (Nat.le_succ _)
      exact ⟨.ref _, upd H (s.heap.objs.size + 1) (.lst ys), I.laid (t' := s.toks) (fun _ _ => PyProof.Rows.sortedAll_old) (Nat.le_succ _) ⟨hyl, out, ep, vs', he⟩, rfl, q _ _ _ (Grow.lst sm hf qs)⟩
  · cases e
end
end Pf

/-! Pf18: found[k].append(e) where found is a slot's list of lists. -/
namespace Pf
open PySem PySem.Spec PyProof.Rows L2
section
variable {K : PySem.W.Frag} {C : Fx} {F : Hp} {fp : Nat → List Addr} {τ : T} {σ : L2.St} {H : Hp}
/-- a list within what slot i owns is written -/
theorem Rel.writeIn {i : Nat} {o o' : OV} {b : Addr} {v : V} {vs : List V} (R : Rel K C F fp τ σ H) (e : slotAt τ i = some o) (hb : b ∈ fp i) (hv : σ[i]? = some (some v)) (w : Own K F (upd H b (.lst vs)) o' v (fp i)) :
    Rel K C F fp (τ.set i (some o')) σ (upd H b (.lst vs)) := by
  have il := slotAt_lt e
  have far : ∀ j, j ≠ i → ∀ c ∈ fp j, c ≠ b := fun j hj c hc z => hj (R.apart j i c hc (by rw [z]; exact hb))
  have kp : ∀ c u, c ≠ b → H c = some u → upd H b (.lst vs) c = some u := fun c u hc h => by rw [upd_ne hc]; exact h
  refine ⟨same_updF R.sub (R.own i b hb).1, R.old, fun c u h1 h2 => ?_, R.new, by rw [List.length_set]; exact R.len, fun j u e' => ?_, R.apart, R.own, fun j c hc => ?_, fun c hc => ?_, R.lent, R.ioc, fun t ht => ?_⟩
  · refine kp c u (fun z => ?_) (R.frame c u h1 h2)
    subst z
    rcases (R.own i c hb).2 with z | z
    · rw [z] at h1; cases h1
    · rw [z] at h2; cases h2
  · by_cases hj : j = i
    · subst hj
      rw [slotAt_set_same il] at e'
      cases e'
      exact ⟨v, hv, w⟩
    · rw [slotAt_set_ne (Ne.symm hj)] at e'
      obtain ⟨x, e1, q⟩ := R.slot j u e'
      exact ⟨x, e1, q.keep (Same.refl _) fun c hc y hy => kp c y (far j hj c hc) hy⟩
  · by_cases hcb : c = b
    · rw [hcb, upd_same]; simp
    · rw [upd_ne hcb]; exact R.lay j c hc
  · by_cases hcb : c = b
    · subst hcb; rw [upd_same] at hc; cases hc
    · rw [upd_ne hcb] at hc; exact R.stay c hc
  · obtain ⟨q, g⟩ := R.pend t ht
    have tb : ∀ c ∈ t.2.2, c ≠ b := fun c hc z => (g c hc).2.2 i (by rw [z]; exact hb)
    exact ⟨q.keep (Same.refl _) fun c hc u hu => kp c u (tb c hc) hu, fun c hc => ⟨(g c hc).1, by rw [upd_ne (tb c hc)]; exact (g c hc).2.1, (g c hc).2.2⟩⟩
theorem Owns.inner {ys : List OV} : ∀ {xs : List OV} {vs : List V} {bs : List Addr} {j : Nat}, Owns K F H xs vs bs → xs[j]? = some (.ls ys) → ∃ b ws, vs[j]? = some (.ref b) ∧ b ∈ bs ∧ H b = some (.lst ws) ∧ ws.length = ys.length ∧
    ∀ z d, Rep K F d z → Owns K F (upd H b (.lst (ws ++ [z]))) (xs.set j (.ls (ys ++ [.fz d]))) vs bs
  | [], _, _, _, _, e => by simp at e
  | x :: xs, vs, bs, 0, h, e => by
    rw [Owns] at h
    obtain ⟨v, us, b1, b2, rfl, rfl, q, qs, m⟩ := h
    have e : x = .ls ys := by simpa using e
    subst e
    have q' := q
    rw [Own] at q'
    obtain ⟨b, ws, cs, rfl, rfl, hH, hn, rs⟩ := q'
    refine ⟨b, ws, rfl, by simp, hH, rs.length.symm, fun z d rz => ?_⟩
    rw [List.set_cons_zero, Owns]
    refine ⟨.ref b, us, b :: cs, b2, rfl, rfl, ?_, qs.keep (Same.refl _) fun c hc u hu => ?_, m⟩
    · rw [Own]
      refine ⟨b, ws ++ [z], cs, rfl, rfl, upd_same, hn, (Owns.append_reps (Reps.cons rz Reps.nil) rs).keep (Same.refl _) fun c hc u hu => ?_⟩
      rw [upd_ne fun y => hn (by rw [← y]; exact hc)]; exact hu
    · rw [upd_ne fun y => m b List.mem_cons_self (by rw [← y]; exact hc)]; exact hu
  | x :: xs, vs, bs, j + 1, h, e => by
    rw [Owns] at h
    obtain ⟨v, us, b1, b2, rfl, rfl, q, qs, m⟩ := h
    obtain ⟨b, ws, e1, hb, hH, hl, g⟩ := Owns.inner (j := j) qs (by simpa using e)
    refine ⟨b, ws, by simpa using e1, List.mem_append_right _ hb, hH, hl, fun z d rz => ?_⟩
    rw [List.set_cons_succ, Owns]
    refine ⟨v, us, b1, b2, rfl, rfl, q.keep (Same.refl _) fun c hc u hu => ?_, g z d rz, m⟩
    rw [upd_ne fun y => m c hc (by rw [y]; exact hb)]; exact hu
end
/-- quiet: nothing of the slots is otherwise behind it -/
def rdQ (K : PySem.W.Frag) (io : List Nat) (q : T → Option D) : TE := fun σ H Q => ∃ C F fp τ d, C.ios.map (·.1) = io ∧ Rel K C F fp τ σ H ∧ q τ = some d ∧ ∀ F' H' v, Rel K C F' fp τ σ H' → Same F F' → Same H H' → Rep K F' d v → Q v H'
def XQ (X : Cx) (io : List Nat) (e : Expr) (q : T → Option D) : Prop := PE X e (rdQ X.K io q)
def fzOf : Option OV → Option D
  | some (.fz d) => some d
  | _ => none
theorem fzOf_ok {o : Option OV} {d : D} (h : fzOf o = some d) : o = some (.fz d) := by
  unfold fzOf at h
  split at h
  · cases h; rfl
  · cases h
def qSlot (i : Nat) : T → Option D := fun τ => fzOf (slotAt τ i)
def qLit (d : D) : T → Option D := fun _ => some d
def nappF (i : Nat) (qi qa : T → Option D) : FP := fun τ => match slotAt τ i, qi τ, qa τ with
  | some (.ls xs), some (.int k), some d => match ixN xs.length k with
    | some j => match xs[j]? with
      | some (.ls ys) => if ys.length < sizeLine then .ok (.val (.fz .non), τ.set i (some (.ls (xs.set j (.ls (ys ++ [.fz d])))))) else .bad
      | _ => .bad
    | none => .bad
  | _, _, _ => .bad
section
variable {X : Cx} {io : List Nat} {pos : Pos}
theorem xq_slot {i : Nat} {x : Str} (hN : X.N[i]? = some x) (hv : Vis X.env.scope x) (hd : (x == ("__debug__" : Str)) = false) (hcd : (x == ("__classdict__" : Str)) = false) : XQ X io (.Name x pos) (qSlot i) := by
  refine pe_weak (pe_var hN hv hd hcd) fun σ H Q ⟨C, F, fp, τ, d, hio, R, e, q⟩ => ?_
  obtain ⟨v, e1, w⟩ := R.slot i _ (fzOf_ok e)
  rw [Own.fz_iff] at w
  exact ⟨v, e1, q F H v R (Same.refl _) (Same.refl _) w.2⟩
theorem xq_int {i : Int} {j : Nat} : XQ X io (.Constant (.int i) j pos) (qLit (.int i)) := pe_weak pe_int fun σ H Q ⟨C, F, fp, τ, d, hio, R, e, q⟩ => by
  cases e
  exact q F H _ R (Same.refl _) (Same.refl _) (by rw [Rep])
theorem napp_open {i : Nat} {qi qa : T → Option D} {σ : L2.St} {H : Hp} {Q : VK} (w : rdP X.K io (nappF i qi qa) σ H Q) :
    tBM X.K "list" rAppend (tOp (rIxL X.K) (rdP X.K io (eSlot i)) (rdQ X.K io qi)) (tCons (rdQ X.K io qa) tNil) σ H Q := by
  obtain ⟨C, F, fp, τ, p, τ', hio, R, e, q⟩ := w
  unfold nappF at e
  split at e
  · rename_i xs k d hs hi ha
    split at e
    · rename_i j hj
      split at e
      · rename_i ys hy
        split at e
        · rename_i hz
          cases e
          refine ⟨C, F, fp, τ, .sl i, τ, hio, R, by unfold eSlot; rw [hs], fun F1 fp1 H1 x R1 s1 w1 => ?_⟩
          refine ⟨C, F1, fp1, τ, .int k, hio, R1, hi, fun F2 H2 y R2 s2 g2 ry => ?_⟩
          rw [Rep] at ry
          obtain ⟨a, vs, bs, hx, hfp, hH, hn, rs⟩ := R2.listSlot hs
          have hx' : σ[i]? = some (some x) := w1
          rw [hx] at hx'
          cases hx'
          obtain ⟨b, ws, e1, hb, hHb, hl, g⟩ := rs.inner hy
          have hat : atI vs k = some (.ref b) := by
            unfold atI
            rw [← rs.length, hj]
            exact e1
          refine ⟨a, vs, k, .ref b, rfl, ry, SqL.of hH, hat, .inl ⟨rfl, ws, SqL.of hHb⟩, C, F2, fp1, τ, d, hio, R2, ha, fun F3 H3 z R3 s3 g3 rz => ?_⟩
          obtain ⟨a3, vs3, bs3, hx3, hfp3, hH3, hn3, rs3⟩ := R3.listSlot hs
          have ea : some (some (V.ref a3)) = some (some (V.ref a)) := hx3.symm.trans hx
          cases ea
          have ev := g3 a _ hH
          rw [hH3] at ev
          cases ev
          have efp : bs3 = bs := by
            rw [hfp] at hfp3
            cases hfp3
            rfl
          subst efp
          obtain ⟨b3, ws3, e3, hb3, hHb3, hl3, gg⟩ := rs3.inner hy
          rw [e1] at e3
          cases e3
          have hbi : b ∈ fp1 i := by rw [hfp]; exact List.mem_cons_of_mem _ hb
          have hba : b ≠ a := fun z => hn (by rw [← z]; exact hb)
          refine ⟨b, ws3, z, rfl, rfl, hHb3, by rw [hl3]; exact hz, ?_⟩
          have ow : Own X.K F3 (upd H3 b (.lst (ws3 ++ [z]))) (.ls (xs.set j (.ls (ys ++ [.fz d])))) (.ref a) (fp1 i) := by
            rw [Own, hfp]
            exact ⟨a, vs, _, rfl, rfl, by rw [upd_ne (Ne.symm hba)]; exact hH3, hn3, gg z d rz⟩
          have R4 := R3.writeIn hs hbi hx ow
          exact q F3 fp1 _ .non R4 ((s1.trans s2).trans s3) (((grow_non R4.sub).rel R4).2)
        · cases e
      · cases e
    · cases e
  · cases e
/-- found[k].append(e) -/
theorem xp_napp {i : Nat} {x : Str} {ek ea : Expr} {qi qa : T → Option D} {p ipos apos cpos : Pos} (ho : XP X io (.Name x p) (eSlot i)) (hi : XQ X io ek qi) (hx : noSlice ek = true) (hn : notStar ea = true) (ha : XQ X io ea qa)
    (hbase : attributeBase (.Subscript (.Name x p) ek ipos) "append" X.env (eval (.Subscript (.Name x p) ek ipos) X.env) = eval (.Subscript (.Name x p) ek ipos) X.env) (hline : (apos.endLine == cpos.line) = true) :
    XP X io (.Call (.Attribute (.Subscript (.Name x p) ek ipos) "append" apos) [ea] [] cpos) (nappF i qi qa) := by
  have hall : [ea].all notStar = true := by rw [List.all_cons, hn]; rfl
  refine pe_weak (pe_bm PySem.F.plainAttrs_list PySem.F.slot_list_append PySem.F.type_list_append mt_append (pe_ix ix_list ho hi (plainIx hx)) (pa_cons ha pa_nil (star_cons hn)) hbase ?_ hline (star_cons hn) rfl) fun σ H Q w => napp_open w
  rw [star_all hall, Bool.true_and]
  rfl
end
end Pf

/-! Pf19: list(range(..)); the new rules by a context's card. -/
namespace Pf
open PySem PySem.Spec PyProof.Rows L2
theorem reps_range {K : PySem.W.Frag} {F : Hp} {n : Int} : Reps K F (rangeL 0 n.toNat 1) (rgV 0 n) := by
  unfold rangeL rgV
  rw [Int.sub_zero]
  generalize List.range n.toNat = l
  induction l with
  | nil => exact Reps.nil
  | cons i l ih => exact Reps.cons (by rw [Rep, Int.mul_one]) ih
def rgOk (n : Int) : Bool := decide (-1000000 ≤ n ∧ n ≤ 1000000)
def rgLM (mk : List D → OV) (τ : T) : Option OV → Res (Pre × T)
  | some (.fz (.int n)) => gd (rgOk n) (.val (mk (rangeL 0 n.toNat 1)), τ)
  | _ => .bad
def rgLK (mk : List D → OV) : Pre × T → Res (Pre × T) := fun (p, τ) => rgLM mk τ (vw τ (opd p))
/-- list(range(e)), tuple(range(e)) -/
def rgLF (mk : List D → OV) (f : FP) : FP := fun τ => (f τ).bind (rgLK mk)
def mkL (ds : List D) : OV := .ls (ds.map OV.fz)
def mkT (ds : List D) : OV := .fz (.tup ds)
theorem rgLF_e (mk : List D → OV) (f : FP) (τ : T) : rgLF mk f τ = (f τ).bind (rgLK mk) := (rfl)
theorem rgLK_e (mk : List D → OV) (p : Pre) (τ : T) : rgLK mk (p, τ) = rgLM mk τ (vw τ (opd p)) := (rfl)
theorem rgLM_e (mk : List D → OV) (τ : T) (n : Int) : rgLM mk τ (some (.fz (.int n))) = gd (rgOk n) (.val (mk (rangeL 0 n.toNat 1)), τ) := (rfl)
section
variable {X : Cx} {io : List Nat} {pos p p2 pos2 : Pos} {a : Expr} {f : FP}
theorem rgL_open {mk : List D → OV} {σ : L2.St} {H : Hp} {Q : VK} (w : rdP X.K io (rgLF mk f) σ H Q) : rdP X.K io f σ H fun x H1 => ∃ (F1 : Hp) (n : Int), x = .int n ∧ RgOk 0 n ∧ Same F1 H1 ∧ ∀ z F2 H2, Grow X.K F1 H1 (mk (rangeL 0 n.toNat 1)) z F2 H2 → Q z H2 := by
  obtain ⟨C, F, fp, τ, p, τ', hio, R, e, q⟩ := w
  obtain ⟨⟨p1, τ1⟩, e1, e⟩ := Res.bind_ok e
  refine ⟨C, F, fp, τ, p1, τ1, hio, R, e1, fun F1 fp1 H1 v R1 s1 w1 => ?_⟩
  obtain ⟨F2, R2, s2, w2⟩ := R1.opd w1
  have e : rgLM mk τ1 (vw τ1 (opd p1)) = .ok (p, τ') := e
  unfold rgLM at e
  split at e
  · rename_i n hx
    obtain ⟨hz, e⟩ := gd_ok e
    cases e
    have hz := of_decide_eq_true hz
    refine ⟨F2, n, (R2.vw w2 hx).int, ⟨by omega, by omega, by omega, by omega, by omega⟩, R2.sub, fun z F3 H3 g => ?_⟩
    obtain ⟨R3, t⟩ := g.rel R2
    exact q F3 fp1 H3 z R3 ((s1.trans s2).trans g.frozen) t
  · cases e
theorem xp_listRg (hc : X.calm = true) (hg : Gl X "list") (hm : X.mg "list" = none) (hg2 : Gl X "range") (hm2 : X.mg "range" = none) (hn : notStar a = true) (ha : XP X io a f) : XP X io (.Call (.Name "list" p) [.Call (.Name "range" p2) [a] [] pos2] [] pos) (rgLF mkL f) := by
  refine pe_weak (pe_listRg hc hg hm (prg_1 hg2 hm2 ha (star_cons hn)) rfl) fun σ H Q w => ?_
  obtain ⟨C, F, fp, τ, p, τ', hio, R, e, q⟩ := rgL_open w
  refine ⟨C, F, fp, τ, p, τ', hio, R, e, fun F1 fp1 H1 v R1 s1 w1 => ?_⟩
  obtain ⟨F2, n, hv, ok, sm, g⟩ := q F1 fp1 H1 v R1 s1 w1
  exact ⟨n, hv, ok, fun r hr => g _ _ _ (Grow.lst sm hr reps_range)⟩
theorem xp_tupRg (hc : X.calm = true) (hg : Gl X "tuple") (hm : X.mg "tuple" = none) (hg2 : Gl X "range") (hm2 : X.mg "range" = none) (hn : notStar a = true) (ha : XP X io a f) : XP X io (.Call (.Name "tuple" p) [.Call (.Name "range" p2) [a] [] pos2] [] pos) (rgLF mkT f) := by
  refine pe_weak (pe_tupRg hc hg hm (prg_1 hg2 hm2 ha (star_cons hn)) rfl) fun σ H Q w => ?_
  obtain ⟨C, F, fp, τ, p, τ', hio, R, e, q⟩ := rgL_open w
  refine ⟨C, F, fp, τ, p, τ', hio, R, e, fun F1 fp1 H1 v R1 s1 w1 => ?_⟩
  obtain ⟨F2, n, hv, ok, sm, g⟩ := q F1 fp1 H1 v R1 s1 w1
  exact ⟨n, hv, ok, fun r hr => g _ _ _ (Grow.tup sm hr reps_range)⟩
end
section
variable {X : Cx} {c : Cd} {k : Nat} {io : List Nat} {pos p apos cpos ipos : Pos} {e ek ea : Expr} {es : List Expr} {h : FA} {i : Nat} {x : Str} {qi qa : T → Option D}
theorem Bd.qslot (B : Bd X c k) (h : slotC c.N c.sc i x = true) : XQ X io (.Name x pos) (qSlot i) := by
  unfold slotC at h
  simp only [Bool.and_eq_true, decide_eq_true_eq, Bool.not_eq_true'] at h
  exact xq_slot (by rw [B.N]; exact h.1) (B.vis h.2.1) h.2.2.1 h.2.2.2
theorem Bd.append (B : Bd X c k) (hs : slotC c.N c.sc i x = true) (hn : (e :: es).all notStar = true) (hbase : attributeBase (.Name x p) "append" X.env (eval (.Name x p) X.env) = eval (.Name x p) X.env) (hline : (apos.endLine == cpos.line) = true) (hlen : decide ((e :: es).length < 30) = true) (ha : XA X io (e :: es) h) :
    XP X io (.Call (.Attribute (.Name x p) "append" apos) (e :: es) [] cpos) (mthF i h appendM) := xp_mth PySem.F.slot_list_append PySem.F.type_list_append mth_append (B.slot hs) ha hn hbase hline hlen
theorem Bd.extend (B : Bd X c k) (hs : slotC c.N c.sc i x = true) (hn : (e :: es).all notStar = true) (hbase : attributeBase (.Name x p) "extend" X.env (eval (.Name x p) X.env) = eval (.Name x p) X.env) (hline : (apos.endLine == cpos.line) = true) (hlen : decide ((e :: es).length < 30) = true) (ha : XA X io (e :: es) h) :
    XP X io (.Call (.Attribute (.Name x p) "extend" apos) (e :: es) [] cpos) (mthF i h extendM) := xp_mth PySem.F.slot_list_extend PySem.F.type_list_extend mth_extend (B.slot hs) ha hn hbase hline hlen
theorem Bd.insert (B : Bd X c k) (hs : slotC c.N c.sc i x = true) (hn : (e :: es).all notStar = true) (hbase : attributeBase (.Name x p) "insert" X.env (eval (.Name x p) X.env) = eval (.Name x p) X.env) (hline : (apos.endLine == cpos.line) = true) (hlen : decide ((e :: es).length < 30) = true) (ha : XA X io (e :: es) h) :
    XP X io (.Call (.Attribute (.Name x p) "insert" apos) (e :: es) [] cpos) (mthF i h insertM) := xp_mth PySem.F.slot_list_insert PySem.F.type_list_insert mth_insert (B.slot hs) ha hn hbase hline hlen
theorem Bd.pop0 (B : Bd X c k) (hs : slotC c.N c.sc i x = true) (hbase : attributeBase (.Name x p) "pop" X.env (eval (.Name x p) X.env) = eval (.Name x p) X.env) (hline : (apos.endLine == cpos.line) = true) :
    XP X io (.Call (.Attribute (.Name x p) "pop" apos) [] [] cpos) (mthF i nilA popM) := xp_mth0 PySem.F.slot_list_pop PySem.F.type_list_pop mth_pop (B.slot hs) hbase hline
theorem Bd.napp (B : Bd X c k) (hs : slotC c.N c.sc i x = true) (hx : noSlice ek = true) (hn : notStar ea = true) (hbase : attributeBase (.Subscript (.Name x p) ek ipos) "append" X.env (eval (.Subscript (.Name x p) ek ipos) X.env) = eval (.Subscript (.Name x p) ek ipos) X.env) (hline : (apos.endLine == cpos.line) = true) (hi : XQ X io ek qi) (ha : XQ X io ea qa) :
    XP X io (.Call (.Attribute (.Subscript (.Name x p) ek ipos) "append" apos) [ea] [] cpos) (nappF i qi qa) := xp_napp (B.slot hs) hi hx hn ha hbase hline
theorem Bd.sorted (B : Bd X c k) (hg : freeC c.sc "sorted" = true) (hm : c.mg "sorted" = none) (hs : (e :: es).all notStar = true) (ha : XA X io (e :: es) h) : XP X io (.Call (.Name "sorted" p) (e :: es) [] pos) (biF h sortS) := xp_callB (B.bltn hg hm rfl) (cs_sorted B.units) hs ha
theorem Bd.listRg {a : Expr} {p2 pos2 : Pos} {f : FP} (B : Bd X c k) (hg : gloC c.sc "list" = true) (hm : c.mg "list" = none) (hg2 : gloC c.sc "range" = true) (hm2 : c.mg "range" = none) (hn : notStar a = true) (ha : XP X io a f) : XP X io (.Call (.Name "list" p) [.Call (.Name "range" p2) [a] [] pos2] [] pos) (rgLF mkL f) :=
  xp_listRg B.calm (B.glo hg).1 (by rw [B.mg]; exact hm) (B.glo hg2).1 (by rw [B.mg]; exact hm2) hn ha
theorem Bd.tupRg {a : Expr} {p2 pos2 : Pos} {f : FP} (B : Bd X c k) (hg : gloC c.sc "tuple" = true) (hm : c.mg "tuple" = none) (hg2 : gloC c.sc "range" = true) (hm2 : c.mg "range" = none) (hn : notStar a = true) (ha : XP X io a f) : XP X io (.Call (.Name "tuple" p) [.Call (.Name "range" p2) [a] [] pos2] [] pos) (rgLF mkT f) :=
  xp_tupRg B.calm (B.glo hg).1 (by rw [B.mg]; exact hm) (B.glo hg2).1 (by rw [B.mg]; exact hm2) hn ha
end
end Pf

/-! Pf20: step rules of the methods; sorted ints. -/
namespace Pf
open PySem PySem.Spec PyProof.Rows L2
def mthN (i : Nat) (τ : T) : D × List OV → Res (Pre × T) := fun (d, ys) => .ok (.val (.fz d), τ.set i (some (.ls ys)))
def mthM (i : Nat) (k : List OV → List D → Res (D × List OV)) (τ : T) : Option OV → Option (List D) → Res (Pre × T)
  | some (.ls xs), some ds => (k xs ds).bind (mthN i τ)
  | _, _ => .bad
def mthK (i : Nat) (k : List OV → List D → Res (D × List OV)) : List Pre × T → Res (Pre × T) := fun (ps, τ) => mthM i k τ (slotAt τ i) (datas ps)
def mthL (i : Nat) (h : FA) (k : List OV → List D → Res (D × List OV)) (τ : T) : Option OV → Res (Pre × T)
  | some (.ls _) => (h τ).bind (mthK i k)
  | _ => .bad
theorem mthF_e (i : Nat) (h : FA) (k : List OV → List D → Res (D × List OV)) (τ : T) : mthF i h k τ = mthL i h k τ (slotAt τ i) := by
  unfold mthF mthL
  cases slotAt τ i with
  | none => rfl
  | some o =>
    cases o with
    | fz d => rfl
    | ls xs =>
      show (h τ).bind _ = (h τ).bind _
      congr 1
theorem mthL_e (i : Nat) (h : FA) (k : List OV → List D → Res (D × List OV)) (τ : T) (xs : List OV) : mthL i h k τ (some (.ls xs)) = (h τ).bind (mthK i k) := (rfl)
theorem mthK_e (i : Nat) (k : List OV → List D → Res (D × List OV)) (ps : List Pre) (τ : T) : mthK i k (ps, τ) = mthM i k τ (slotAt τ i) (datas ps) := (rfl)
theorem mthM_e (i : Nat) (k : List OV → List D → Res (D × List OV)) (τ : T) (xs : List OV) (ds : List D) : mthM i k τ (some (.ls xs)) (some ds) = (k xs ds).bind (mthN i τ) := (rfl)
theorem mthN_e (i : Nat) (τ : T) (d : D) (ys : List OV) : mthN i τ (d, ys) = .ok (.val (.fz d), τ.set i (some (.ls ys))) := (rfl)
theorem append_ok (ds : List D) (d : D) (h : ds.length ≤ 1000000) : appendM (ds.map OV.fz) [d] = .ok (.non, (ds ++ [d]).map OV.fz) := by
  unfold appendM
  dsimp only
  have h2 : (2000000 : Nat) ≤ sizeLine := by decide
  rw [decide_eq_true (by rw [List.length_map]; omega), gdt, List.map_append]
  rfl
theorem extend_ok (ds es : List D) (h : ds.length + es.length ≤ 1000000) : extendM (ds.map OV.fz) [.lst es] = .ok (.non, (ds ++ es).map OV.fz) := by
  unfold extendM
  dsimp only
  have h2 : (2000000 : Nat) ≤ sizeLine := by decide
  rw [decide_eq_true (by rw [List.length_map]; omega), gdt, List.map_append]
theorem insert_ok (ds : List D) (d : D) (i : Int) (h0 : 0 ≤ i) (h1 : i ≤ 1000000) (h : ds.length ≤ 1000000) : insertM (ds.map OV.fz) [.int i, d] = .ok (.non, (ds.take i.toNat ++ [d] ++ ds.drop i.toNat).map OV.fz) := by
  unfold insertM
  dsimp only
  have h2 : (2000000 : Nat) ≤ sizeLine := by decide
  rw [decide_eq_true (by rw [List.length_map]; omega), gdt]
  simp
def nappN (i : Nat) (xs : List OV) (j : Nat) (d : D) (τ : T) : Option OV → Res (Pre × T)
  | some (.ls ys) => if ys.length < sizeLine then .ok (.val (.fz .non), τ.set i (some (.ls (xs.set j (.ls (ys ++ [.fz d])))))) else .bad
  | _ => .bad
def nappK (i : Nat) (τ : T) : Option OV → Option D → Option D → Res (Pre × T)
  | some (.ls xs), some (.int k), some d => match ixN xs.length k with
    | some j => nappN i xs j d τ xs[j]?
    | none => .bad
  | _, _, _ => .bad
theorem napp_e (i : Nat) (qi qa : T → Option D) (τ : T) : nappF i qi qa τ = nappK i τ (slotAt τ i) (qi τ) (qa τ) := by
  unfold nappF nappK
  generalize slotAt τ i = a
  generalize qi τ = b
  generalize qa τ = c
  cases a with
  | none => rfl
  | some o =>
    cases o with
    | fz d => rfl
    | ls xs =>
      cases b with
      | none => rfl
      | some x =>
        cases x with
        | int k =>
          cases c with
          | none => rfl
          | some d =>
            dsimp only
            cases ixN xs.length k with
            | none => rfl
            | some j =>
              dsimp only
              cases xs[j]? with
              | none => rfl
              | some o => cases o <;> rfl
        | _ => rfl
theorem nappK_e (i : Nat) (τ : T) (xs : List OV) (k : Nat) (ys : List OV) (d : D) (hk : k < xs.length) (hy : xs[k]? = some (.ls ys)) (hz : ys.length ≤ 1000000) : nappK i τ (some (.ls xs)) (some (.int k)) (some d) = .ok (.val (.fz .non), τ.set i (some (.ls (xs.set k (.ls (ys ++ [.fz d])))))) := by
  have h2 : (2000000 : Nat) ≤ sizeLine := by decide
  have e : ixN xs.length (k : Int) = some k := by
    unfold ixN
    rw [if_pos (by omega), if_pos (by omega)]
    rfl
  show (match ixN xs.length (k : Int) with | some j => nappN i xs j d τ xs[j]? | none => .bad) = _
  rw [e]
  show nappN i xs k d τ xs[k]? = _
  rw [hy]
  show (if ys.length < sizeLine then _ else Res.bad) = _
  rw [if_pos (by omega)]
theorem qSlot_e (i : Nat) (τ : T) : qSlot i τ = fzOf (slotAt τ i) := (rfl)
theorem fzOf_e (d : D) : fzOf (some (.fz d)) = some d := (rfl)
/-! sorted ints -/
theorem le_int (a b : Int) : PySem.W.dataLe false D.py (.int a) (.int b) = decide (a ≤ b) := by
  have h := PySem.W.dataLt_int b a
  show (!PySem.W.dataLt (D.py (.int b)) (D.py (.int a))) = _
  simp only [D.py, h]
  by_cases hb : b < a
  · rw [decide_eq_true hb, decide_eq_false (by omega)]; rfl
  · rw [decide_eq_false hb, decide_eq_true (by omega)]; rfl
theorem sortD_ints (l : List Int) : sortD (l.map D.int) = (l.mergeSort fun a b => decide (a ≤ b)).map D.int := by
  unfold sortD
  exact (List.map_mergeSort fun a _ b _ => (le_int a b).symm).symm
theorem sort_perm (l : List Int) : (l.mergeSort fun a b => decide (a ≤ b)).Perm l := List.mergeSort_perm _ _
theorem sort_sorted (l : List Int) : (l.mergeSort fun a b => decide (a ≤ b)).Pairwise fun a b => decide (a ≤ b) = true :=
  List.pairwise_mergeSort (fun a b c h1 h2 => by simp only [decide_eq_true_eq] at *; omega) (fun a b => by
    by_cases h : a ≤ b
    · simp [h]
    · simp [h]; omega) l
/-- ints in order, told once each: sorted they are as they stand -/
theorem perm_sorted : ∀ {l m : List Int}, l.Perm m → l.Pairwise (· ≤ ·) → m.Pairwise (· ≤ ·) → l = m
  | [], m, h, _, _ => by
    have := h.length_eq
    cases m with
    | nil => rfl
    | cons y ys => simp at this
  | x :: xs, m, h, hl, hm => by
    cases m with
    | nil => have := h.length_eq; simp at this
    | cons y ys =>
      rw [List.pairwise_cons] at hl hm
      have hx : x ∈ y :: ys := h.subset List.mem_cons_self
      have hy : y ∈ x :: xs := h.symm.subset List.mem_cons_self
      have e : x = y := by
        rcases List.mem_cons.mp hx with z | z
        · exact z
        · rcases List.mem_cons.mp hy with w | w
          · exact w.symm
          · exact Int.le_antisymm (hl.1 y w) (hm.1 x z)
      subst e
      rw [perm_sorted (List.Perm.cons_inv h) hl.2 hm.2]
theorem sort_eq {l m : List Int} (h : l.Perm m) (hm : m.Pairwise (· ≤ ·)) : (l.mergeSort fun a b => decide (a ≤ b)) = m :=
  perm_sorted ((sort_perm l).trans h) ((sort_sorted l).imp fun z => of_decide_eq_true z) hm
theorem sortS_ints (l : List Int) (h : l.length ≤ 1000000) : sortS [.ls ((l.map D.int).map OV.fz)] = .ok (.ls (((l.mergeSort fun a b => decide (a ≤ b)).map D.int).map OV.fz)) := by
  unfold sortS
  dsimp only
  rw [listOf_ls]
  dsimp only
  have h2 : (2000000 : Nat) ≤ sizeLine := by decide
  have e1 : decide ((l.map D.int).length ≤ sizeLine) = true := decide_eq_true (by rw [List.length_map]; omega)
  have e2 : allAlike (l.map D.int) = true := by
    unfold allAlike
    simp [D.py, PySem.W.alike]
  have e3 : (l.map D.int).all isOther = true := by simp [isOther]
  have e4 : ((l.map D.int).all fun d => decide (d.dep ≤ 60)) = true := by simp [dep_int]
  rw [e1, e2, e3, e4, Bool.or_true, sortD_ints]
  rfl
end Pf

/-! Pf21: isinstance(x, T), T a built-in type. -/
namespace Pf
open PySem PySem.Spec PyProof.Rows L2
def oneM (k : OV → Res OV) (τ : T) : Option OV → Res (Pre × T)
  | some o => (k o).bind (valK τ)
  | none => .bad
def oneK (k : OV → Res OV) : Pre × T → Res (Pre × T) := fun (p, τ) => oneM k τ (vw τ (opd p))
/-- an operation on one value that is looked at -/
def oneF (f : FP) (k : OV → Res OV) : FP := fun τ => (f τ).bind (oneK k)
theorem oneF_e (f : FP) (k : OV → Res OV) (τ : T) : oneF f k τ = (f τ).bind (oneK k) := (rfl)
theorem oneK_e (k : OV → Res OV) (p : Pre) (τ : T) : oneK k (p, τ) = oneM k τ (vw τ (opd p)) := (rfl)
theorem oneM_e (k : OV → Res OV) (τ : T) (o : OV) : oneM k τ (some o) = (k o).bind (valK τ) := (rfl)
def tyName : OV → String
  | .ls _ => "list"
  | .fz .non => "NoneType"
  | .fz (.bl _) => "bool"
  | .fz (.int _) => "int"
  | .fz (.str _) => "str"
  | .fz (.tup _) => "tuple"
  | .fz (.lst _) => "list"
def isiS (n : String) (o : OV) : Res OV := match kitB (tyName o) n with
  | some b => .ok (.fz (.bl b))
  | none => .bad
section
variable {X : Cx} {io : List Nat} {pos p p2 : Pos} {a : Expr} {f : FP}
theorem View.ty {K : PySem.W.Frag} {F H : Hp} {o : OV} {v : V} (sm : Same F H) (w : View K F H o v) : TyX K H v (.type (tyName o)) := by
  obtain ⟨as, w⟩ := w
  cases o with
  | ls xs =>
    rw [Own] at w
    obtain ⟨a, vs, bs, rfl, _, hH, _, _⟩ := w
    exact .base (.lst hH)
  | fz d =>
    rw [Own.fz_iff] at w
    have w := w.2
    cases d with
    | non => rw [Rep] at w; subst w; exact .base .non
    | bl b => rw [Rep] at w; subst w; exact .base (.bl b)
    | int i => rw [Rep] at w; subst w; exact .base (.int i)
    | str x => rw [Rep] at w; subst w; exact .base (.str x)
    | tup xs =>
      rw [Rep] at w
      obtain ⟨a, vs, rfl, q, _⟩ := w
      rcases sqt_mono sm q with (h | ⟨ob, h⟩) | h
      · exact .base (.tup h)
      · exact .fTuple h
      · obtain ⟨ob, its, n, h1, h2, _⟩ := h
        exact .kTuple h1 h2
    | lst xs =>
      rw [Rep] at w
      obtain ⟨a, vs, rfl, q, _⟩ := w
      rcases q.mono sm with (h | ⟨ob, h⟩) | ⟨its, h, _⟩
      · exact .base (.lst h)
      · exact .base (.frz h)
      · exact .kList h rfl
theorem one_open {k : OV → Res OV} {σ : L2.St} {H : Hp} {Q : VK} (w : rdP X.K io (oneF f k) σ H Q) : rdP X.K io f σ H fun x H1 => ∃ F1 o r, Same F1 H1 ∧ View X.K F1 H1 o x ∧ k o = .ok r ∧ ∀ z F2 H2, Grow X.K F1 H1 r z F2 H2 → Q z H2 := by
  obtain ⟨C, F, fp, τ, p, τ', hio, R, e, q⟩ := w
  obtain ⟨⟨p1, τ1⟩, e1, e⟩ := Res.bind_ok e
  refine ⟨C, F, fp, τ, p1, τ1, hio, R, e1, fun F1 fp1 H1 v R1 s1 w1 => ?_⟩
  obtain ⟨F2, R2, s2, w2⟩ := R1.opd w1
  have e : oneM k τ1 (vw τ1 (opd p1)) = .ok (p, τ') := e
  cases hx : vw τ1 (opd p1) with
  | none => rw [hx] at e; cases e
  | some o =>
    rw [hx] at e
    obtain ⟨r, e3, e4⟩ := Res.bind_ok e
    cases e4
    refine ⟨F2, o, r, R2.sub, R2.vw w2 hx, e3, fun z F3 H3 g => ?_⟩
    obtain ⟨R3, t⟩ := g.rel R2
    exact q F3 fp1 H3 z R3 ((s1.trans s2).trans g.frozen) t
/-- a built-in type by its name -/
def tTyp (n : String) : TE := fun σ H Q => Q (.ty n) H
theorem pe_typ {x : Str} {n : String} (B : Bltn X x (.type n)) : PE X (.Name x p) (tTyp n) :=
  ⟨fun pins s σ H Q I h => ld_blt I B.gl B.mg B.bt ⟨.ty n, H, I, rfl, h⟩ B.nm B.db⟩
theorem xp_isi {x : Str} {n : String} (B1 : Bltn X "isinstance" (.builtin "isinstance")) (B : Bltn X x (.type n)) (hn : notStar a = true) (ha : XP X io a f) : XP X io (.Call (.Name "isinstance" p) [a, .Name x p2] [] pos) (oneF f (isiS n)) := by
  have hst : starEach [a, .Name x p2] X.env = (false, eval a X.env) :: starEach [.Name x p2] X.env := star_cons hn
  refine pe_weak (pe_callB call_isi B1.gl B1.mg B1.bt (pa_cons ha (pa_cons (pe_typ B) pa_nil) hst) B1.nm B1.db hst (star_any (es := [.Name x p2]) rfl)) fun σ H Q w => ?_
  obtain ⟨C, F, fp, τ, p, τ', hio, R, e, q⟩ := one_open w
  refine ⟨C, F, fp, τ, p, τ', hio, R, e, fun F1 fp1 H1 v R1 s1 w1 => ?_⟩
  obtain ⟨F2, o, r, sm, vw, hk, g⟩ := q F1 fp1 H1 v R1 s1 w1
  unfold isiS at hk
  split at hk
  · rename_i b hb
    cases hk
    exact ⟨v, .ty n, .type (tyName o), .type n, b, rfl, .ty n, vw.ty sm, kit_ty hb, g _ _ _ (grow_bl sm b)⟩
  · cases hk
end
section
variable {X : Cx} {c : Cd} {k : Nat} {io : List Nat} {pos p p2 : Pos} {a : Expr} {f : FP}
theorem Bd.isi (B : Bd X c k) {x : Str} {n : String} (hg : freeC c.sc "isinstance" = true) (hm : c.mg "isinstance" = none) (hg2 : freeC c.sc x = true) (hm2 : c.mg x = none) (hv : bootBuiltins x = some (.type n)) (hn : notStar a = true) (ha : XP X io a f) :
    XP X io (.Call (.Name "isinstance" p) [a, .Name x p2] [] pos) (oneF f (isiS n)) := xp_isi (B.bltn hg hm rfl) (B.bltn hg2 hm2 hv) hn ha
end
end Pf

/-! Pf22: a op b op c; *e in a display. -/
namespace Pf
open PySem PySem.Spec PyProof.Rows L2
/-! ### a op b op c -/
def chnP (k2 : OV → OV → Res OV) (q : Pre) : Pre × T → Res (Pre × T) := fun (r, τ) => twoM k2 τ (vw τ (opd q)) (vw τ (opd r))
def chnO (h : FP) (k2 : OV → OV → Res OV) (q : Pre) (τ : T) : OV → Res (Pre × T)
  | .fz (.bl true) => (h τ).bind (chnP k2 q)
  | .fz (.bl false) => .ok (.val (.fz (.bl false)), τ)
  | _ => .bad
def chnN (h : FP) (k1 k2 : OV → OV → Res OV) (q : Pre) (τ : T) : Option OV → Option OV → Res (Pre × T)
  | some x, some y => (k1 x y).bind (chnO h k2 q τ)
  | _, _ => .bad
def chnM (h : FP) (k1 k2 : OV → OV → Res OV) (p : Pre) : Pre × T → Res (Pre × T) := fun (q, τ) => chnN h k1 k2 q τ (vw τ (opd p)) (vw τ (opd q))
def chnK (g h : FP) (k1 k2 : OV → OV → Res OV) : Pre × T → Res (Pre × T) := fun (p, τ) => (g τ).bind (chnM h k1 k2 p)
def chnF (f g h : FP) (k1 k2 : OV → OV → Res OV) : FP := fun τ => (f τ).bind (chnK g h k1 k2)
theorem chnF_e (f g h : FP) (k1 k2 : OV → OV → Res OV) (τ : T) : chnF f g h k1 k2 τ = (f τ).bind (chnK g h k1 k2) := (rfl)
theorem chnK_e (g h : FP) (k1 k2 : OV → OV → Res OV) (p : Pre) (τ : T) : chnK g h k1 k2 (p, τ) = (g τ).bind (chnM h k1 k2 p) := (rfl)
theorem chnM_e (h : FP) (k1 k2 : OV → OV → Res OV) (p q : Pre) (τ : T) : chnM h k1 k2 p (q, τ) = chnN h k1 k2 q τ (vw τ (opd p)) (vw τ (opd q)) := (rfl)
theorem chnN_e (h : FP) (k1 k2 : OV → OV → Res OV) (q : Pre) (τ : T) (x y : OV) : chnN h k1 k2 q τ (some x) (some y) = (k1 x y).bind (chnO h k2 q τ) := (rfl)
theorem chnO_t (h : FP) (k2 : OV → OV → Res OV) (q : Pre) (τ : T) : chnO h k2 q τ (.fz (.bl true)) = (h τ).bind (chnP k2 q) := (rfl)
theorem chnO_f (h : FP) (k2 : OV → OV → Res OV) (q : Pre) (τ : T) : chnO h k2 q τ (.fz (.bl false)) = .ok (.val (.fz (.bl false)), τ) := (rfl)
theorem chnP_e (k2 : OV → OV → Res OV) (q r : Pre) (τ : T) : chnP k2 q (r, τ) = twoM k2 τ (vw τ (opd q)) (vw τ (opd r)) := (rfl)
section
variable {X : Cx} {io : List Nat} {pos : Pos} {a b c : Expr} {f g h : FP} {k1 k2 : OV → OV → Res OV}
theorem chn_open {σ : L2.St} {H : Hp} {Q : VK} (w : rdP X.K io (chnF f g h k1 k2) σ H Q) : tChain (rO X.K k1) (rO X.K k2) (rdP X.K io f) (rdP X.K io g) (rdP X.K io h) σ H Q := by
  obtain ⟨C, F, fp, τ, p, τ', hio, R, e, q⟩ := w
  obtain ⟨⟨p1, τ1⟩, e1, e⟩ := Res.bind_ok e
  have e : (g τ1).bind (chnM h k1 k2 p1) = .ok (p, τ') := e
  obtain ⟨⟨p2, τ2⟩, e2, e⟩ := Res.bind_ok e
  have e : chnN h k1 k2 p2 τ2 (vw τ2 (opd p1)) (vw τ2 (opd p2)) = .ok (p, τ') := e
  refine ⟨C, F, fp, τ, p1, τ1, hio, R, e1, fun F1 fp1 H1 x R1 s1 w1 => ?_⟩
  obtain ⟨F1', R1', s1', w1'⟩ := R1.opd w1
  refine ⟨C, F1', fp1, τ1, p2, τ2, hio, R1', e2, fun F2 fp2 H2 y R2 s2 w2 => ?_⟩
  obtain ⟨F2', R2', s2', w2'⟩ := R2.opd w2
  cases hx : vw τ2 (opd p1) with
  | none => rw [hx] at e; cases e
  | some ox =>
    cases hy : vw τ2 (opd p2) with
    | none => rw [hx, hy] at e; cases e
    | some oy =>
      rw [hx, hy] at e
      obtain ⟨r, e3, e4⟩ := Res.bind_ok e
      refine ⟨F2', ox, oy, r, R2'.sub, R2'.vw (w1'.mono (s2.trans s2')) hx, R2'.vw w2' hy, e3, fun z F3 H3 g3 => ?_⟩
      have s03 := ((s1.trans s1').trans (s2.trans s2')).trans g3.frozen
      obtain ⟨R3, as, t3⟩ := g3.rel R2'
      unfold chnO at e4
      split at e4
      · -- the second comparison is asked
        have hz := t3.own
        rw [Own.fz_iff] at hz
        have hz2 := hz.2
        rw [Rep] at hz2
        refine ⟨true, hz2, ?_⟩
        rw [if_pos rfl]
        obtain ⟨⟨p3, τ3⟩, e5, e6⟩ := Res.bind_ok e4
        refine ⟨C, F3, fp2, τ2, p3, τ3, hio, R3, e5, fun F4 fp4 H4 v R4 s4 w4 => ?_⟩
        obtain ⟨F4', R4', s4', w4'⟩ := R4.opd w4
        have e6 : twoM k2 τ3 (vw τ3 (opd p2)) (vw τ3 (opd p3)) = .ok (p, τ') := e6
        cases hx2 : vw τ3 (opd p2) with
        | none => rw [hx2] at e6; cases e6
        | some o2 =>
          cases hy2 : vw τ3 (opd p3) with
          | none => rw [hx2, hy2] at e6; cases e6
          | some o3 =>
            rw [hx2, hy2] at e6
            obtain ⟨r2, e7, e8⟩ := Res.bind_ok e6
            cases e8
            refine ⟨F4', o2, o3, r2, R4'.sub, R4'.vw (w2'.mono ((g3.frozen.trans s4).trans s4')) hx2, R4'.vw w4' hy2, e7, fun z5 F5 H5 g5 => ?_⟩
            obtain ⟨R5, t5⟩ := g5.rel R4'
            exact q F5 fp4 H5 z5 R5 (((s03.trans s4).trans s4').trans g5.frozen) t5
      · have hz := t3.own
        rw [Own.fz_iff] at hz
        have hz2 := hz.2
        rw [Rep] at hz2
        refine ⟨false, hz2, ?_⟩
        rw [if_neg (by simp)]
        cases e4
        exact q F3 fp2 H3 _ R3 s03 ((grow_bl R3.sub false).rel R3).2
      · cases e4
theorem xp_chn {op op' : CmpOp} (ho : OpS X (compareOp op) k1) (ho' : OpS X (compareOp op') k2) (hm : lastMarks [op, op'] [b, c] = false) (ha : XP X io a f) (hb : XP X io b g) (hc : XP X io c h) : XP X io (.Compare a [op, op'] [b, c] pos) (chnF f g h k1 k2) :=
  pe_weak (pe_chain ho.opR ho'.opR ha hb hc hm) fun _ _ _ w => chn_open w
/-- what a function gives is a truth -/
theorem tru_bl {f : FP} (hb : ∀ τ p τ', f τ = .ok (p, τ') → ∃ b, p = .val (.fz (.bl b))) {σ : L2.St} {H : Hp} {Q : Bool → Hp → Prop} (w : rdT X.K io (tru f) σ H Q) : rdP X.K io f σ H fun x H1 => ∃ k, x = .bl k ∧ Q k H1 := by
  obtain ⟨C, F, fp, τ, c, τ', hio, R, e, q⟩ := w
  obtain ⟨⟨p, τ1⟩, e1, e⟩ := Res.bind_ok e
  refine ⟨C, F, fp, τ, p, τ1, hio, R, e1, fun F1 fp1 H1 v R1 s1 w1 => ?_⟩
  obtain ⟨bb, rfl⟩ := hb _ _ _ e1
  obtain ⟨as, t⟩ := w1
  have z := t.own
  rw [Own.fz_iff] at z
  have z2 := z.2
  rw [Rep] at z2
  cases e
  exact ⟨_, z2, q F1 fp1 H1 R1 s1⟩
theorem chn_bl (hk : ∀ x y r, k2 x y = .ok r → ∃ b, r = .fz (.bl b)) {τ τ' : T} {p : Pre} (e : chnF f g h k1 k2 τ = .ok (p, τ')) : ∃ b, p = .val (.fz (.bl b)) := by
  obtain ⟨⟨p1, τ1⟩, e1, e⟩ := Res.bind_ok e
  have e : (g τ1).bind (chnM h k1 k2 p1) = .ok (p, τ') := e
  obtain ⟨⟨p2, τ2⟩, e2, e⟩ := Res.bind_ok e
  have e : chnN h k1 k2 p2 τ2 (vw τ2 (opd p1)) (vw τ2 (opd p2)) = .ok (p, τ') := e
  unfold chnN at e
  split at e
  · obtain ⟨r, e3, e4⟩ := Res.bind_ok e
    unfold chnO at e4
    split at e4
    · obtain ⟨⟨p3, τ3⟩, e5, e6⟩ := Res.bind_ok e4
      have e6 : twoM k2 τ3 (vw τ3 (opd p2)) (vw τ3 (opd p3)) = .ok (p, τ') := e6
      unfold twoM at e6
      split at e6
      · obtain ⟨r2, e7, e8⟩ := Res.bind_ok e6
        cases e8
        obtain ⟨b, rfl⟩ := hk _ _ _ e7
        exact ⟨b, rfl⟩
      · cases e6
    · cases e4; exact ⟨false, rfl⟩
    · cases e4
  · cases e
theorem xt_chn {op op' : CmpOp} (ho : OpS X (compareOp op) k1) (ho' : OpS X (compareOp op') k2) (hk : ∀ x y r, k2 x y = .ok r → ∃ b, r = .fz (.bl b)) (hm : lastMarks [op, op'] [b, c] = false) (ha : XP X io a f) (hb : XP X io b g) (hc : XP X io c h) : XT X io (.Compare a [op, op'] [b, c] pos) (tru (chnF f g h k1 k2)) :=
  pt_weak (pt_chain ho.opR ho'.opR ha hb hc hm) fun _ _ _ w => chn_open (tru_bl (fun _ _ _ e => chn_bl hk e) w)
/-! ### *e -/
def starA (io : List Nat) (f : FP) (h : FA) : FA := fun τ => (f τ).bind fun (p, τ1) => (settle io p τ1).bind fun (d, τ2) => match itemsEr d with
  | some ds => (h τ2).bind fun (ps, τ3) => .ok (ds.map (fun d => .val (.fz d)) ++ ps, τ3)
  | none => .bad
theorem OpdRs.app {K : PySem.W.Frag} {F : Hp} {σ : L2.St} : ∀ {ds : List D} {vs : List V} {ps : List Pre} {ws : List V}, Reps K F ds vs → OpdRs K F σ ps ws → OpdRs K F σ (ds.map (fun d => .val (.fz d)) ++ ps) (vs ++ ws)
  | [], vs, ps, ws, r, w => by rw [Reps] at r; subst r; exact w
  | d :: ds, vs, ps, ws, r, w => by
    rw [Reps] at r
    obtain ⟨v, us, rfl, q, qs⟩ := r
    rw [List.map_cons, List.cons_append, List.cons_append, OpdRs]
    exact ⟨v, us ++ ws, rfl, ⟨d, rfl, q⟩, OpdRs.app qs w⟩
theorem xa_star {e : Expr} {es : List Expr} {p : Pos} {hh : FA} (ha : XP X io e f) (hr : XA X io es hh) : XA X io (.Starred e p :: es) (starA io f hh) := by
  refine pa_weak (StX.pa_star ha hr rfl) fun σ H Q w => ?_
  obtain ⟨C, F, fp, τ, ps, τ', hio, R, e, q⟩ := w
  obtain ⟨⟨p1, τ1⟩, e1, e⟩ := Res.bind_ok e
  obtain ⟨⟨d, τ2⟩, e2, e⟩ := Res.bind_ok e
  dsimp only at e
  refine ⟨C, F, fp, τ, p1, τ1, hio, R, e1, fun F1 fp1 H1 v R1 s1 w1 => ?_⟩
  obtain ⟨F2, fp2, R2, s2, w2⟩ := R1.settle hio w1 e2
  cases hi : itemsEr d with
  | none => rw [hi] at e; cases e
  | some ds =>
    rw [hi] at e
    obtain ⟨⟨qs, τ3⟩, e3, e4⟩ := Res.bind_ok e
    cases e4
    have hseq : ∃ a vs, v = .ref a ∧ (SqT X.K H1 a vs ∨ SqL X.K H1 a vs) ∧ Reps X.K F2 ds vs := by
      cases d with
      | tup xs =>
        cases hi
        rw [Rep] at w2
        obtain ⟨a, vs, rfl, l, rr⟩ := w2
        exact ⟨a, vs, rfl, .inl (sqt_mono R2.sub l), rr⟩
      | lst xs =>
        cases hi
        rw [Rep] at w2
        obtain ⟨a, vs, rfl, l, rr⟩ := w2
        exact ⟨a, vs, rfl, .inr (l.mono R2.sub).sql, rr⟩
      | _ => cases hi
    obtain ⟨a, vs, rfl, hs, rr⟩ := hseq
    refine ⟨a, vs, rfl, hs, C, F2, fp2, τ2, qs, _, hio, R2, e3, fun F3 fp3 H3 ws R3 s3 w3 => ?_⟩
    exact q F3 fp3 H3 (vs ++ ws) R3 ((s1.trans s2).trans s3) (OpdRs.app (rr.mono s3) w3)
end
end Pf

/-! Pf23: e[::-1] of a tuple or a list. -/
namespace Pf
open PySem PySem.Spec PyProof.Rows L2 HT
theorem rev_places (n : Nat) : Builtin.Slice.slicePlaces ((n : Int) - 1) (-1) (-1) = n := by
  unfold Builtin.Slice.slicePlaces
  have h1 : ¬ ((-1 : Int) > 0) := by omega
  simp only [h1, if_false]
  split
  · rw [show (- -1 : Int) = 1 by decide, Int.ediv_one]; omega
  · omega
theorem rev_adjust (n : Nat) : Builtin.Slice.sliceAdjust none none (-1) (n : Int) = ((n : Int) - 1, -1) := by
  unfold Builtin.Slice.sliceAdjust
  simp
theorem fm_congr {α β : Type} {f g : α → Option β} : ∀ {l : List α}, (∀ x ∈ l, f x = g x) → l.filterMap f = l.filterMap g
  | [], _ => rfl
  | x :: l, h => by
    rw [List.filterMap_cons, List.filterMap_cons, h x List.mem_cons_self, fm_congr fun y hy => h y (List.mem_cons_of_mem _ hy)]
theorem rev_pick (xs : Array Value) : ((List.range xs.size).filterMap fun (k : Nat) => xs[(((xs.size : Int) - 1) + (k : Int) * (-1)).toNat]?).toArray = xs.toList.reverse.toArray := by
  have e : (List.range xs.size).filterMap (fun (k : Nat) => xs[(((xs.size : Int) - 1) + (k : Int) * (-1)).toNat]?) = ((List.range xs.size).map fun k => xs.size - 1 - k).filterMap (xs[·]?) := by
    rw [List.filterMap_map]
    refine fm_congr fun k hk => ?_
    have := List.mem_range.mp hk
    have z : (((xs.size : Int) - 1) + (k : Int) * (-1)).toNat = xs.size - 1 - k := by omega
    show xs[(((xs.size : Int) - 1) + (k : Int) * (-1)).toNat]? = xs[xs.size - 1 - k]?
    rw [z]
  rw [e, PySem.W.krv_range, List.filterMap_reverse, PySem.W.krv_all]
section
variable {prog : Program} {w : World} {A : Around} {E : Value → Shared → Prop} {s : Shared}
theorem sliceApplied_rev {sl : Addr} {vs : Value} {n : Nat} {Q : Int × Int × Nat → Shared → Prop} (hs : s.heap.IsSliceOf sl .none .none vs) (ps : IsPart vs (some (-1)))
    (h : Q ((n : Int) - 1, -1, n) s) : wpAny (model prog w) A (Builtin.Slice.sliceApplied (.ref sl) (pure (n : Int))) Q E s := by
  obtain ⟨os, hos, hcs, hds⟩ := id hs
  unfold Builtin.Slice.sliceApplied Builtin.Slice.sliceFields
  refine wpAny_bind (wpAny_bind (wpAny_field hos hds (x := .none) rfl (wpAny_bind (wpAny_field hos hds (x := .none) rfl (wpAny_bind (wpAny_field hos hds (x := vs) rfl (wpAny_pure ?_)))))))
  refine wpAny_bind (slicePart_ ps ?_)
  show wpAny _ _ (if ((-1 : Int) == 0) = true then _ else _) _ _ s
  rw [if_neg (by decide)]
  refine wpAny_bind (slicePart_ .none (wpAny_bind (slicePart_ .none (wpAny_bind (wpAny_pure ?_)))))
  show wpAny _ _ (match Builtin.Slice.sliceAdjust none none (-1) (n : Int) with | (lo, hi) => pure (lo, (-1 : Int), Builtin.Slice.slicePlaces lo hi (-1))) _ _ s
  rw [rev_adjust]
  show wpAny _ _ (pure ((n : Int) - 1, (-1 : Int), Builtin.Slice.slicePlaces ((n : Int) - 1) (-1) (-1))) _ _ s
  rw [rev_places]
  exact wpAny_pure h
theorem getItem_tuple_rev {t sl : Addr} {items : Array Value} {vs : Value} {Q : Value → Shared → Prop} (ht : IsTup s.heap t items) (hs : s.heap.IsSliceOf sl .none .none vs) (ps : IsPart vs (some (-1)))
    (h : Q (.ref s.heap.objs.size) { s with heap := s.heap.push { cls := .type "tuple", data := .seq items.toList.reverse.toArray } })
    (hsz : items.size ≤ sizeLine) : wpAny (model prog w) A (getItem (.ref t) (.ref sl)) Q E s := by
  have htake : sizeOk (.seq items.toList.reverse.toArray) := by
    show items.toList.reverse.toArray.size ≤ sizeLine
    rw [List.size_toArray, List.length_reverse, Array.length_toList]
    exact hsz
  obtain ⟨os, hos, hcs, hds⟩ := id hs
  have hTs : s.TypeIs (.ref sl) "slice" := ⟨os, hos, hcs⟩
  unfold getItem
  try with_reducible refine wpAny_holding ?_
  first | refine wpAny_bind (wpAny_pure ?_) | skip
  refine wpAny_bind (wpAny_sequenceKey ht.typeIs (by decide) ?_)
  refine wpAny_bind (wpAny_callSpecial?_slot (name := Str.ofString "__getitem__") ht.typeIs PyProof.Rows.slot_tuple_getitem
    (wpAny_call_entry PyProof.Rows.slot_tuple_getitem ht.typeIs entry_tuple_getitem ?_ (args_tuple_getitem _ _)))
  show wpAny _ _ (Builtin.Tuple.tupleItemsOf (.ref t) >>= _) _ _ s
  refine wpAny_bind (tupleItemsOf_ ht ?_)
  refine wpAny_bind (wpAny_typeOf hTs ?_)
  rw [if_pos (by decide)]
  refine wpAny_bind (sliceApplied_rev hs ps ?_)
  have hno : ¬ ((((items.size : Int) - 1 == 0) && (-1 : Int) == 1 && items.size == items.size) = true) := by
    intro q
    rw [Bool.and_eq_true, Bool.and_eq_true] at q
    exact absurd q.1.2 (by decide)
  show wpAny _ _ (if (((items.size : Int) - 1 == 0) && (-1 : Int) == 1 && items.size == items.size) = true then _ else _) _ _ s
  rw [if_neg hno, rev_pick]
  first
    | exact wpAny_bind (m := Builtin.Tuple.tupleExact _) (wpAny_newObj_type (wpAny_pure ⟨_, rfl, wpAny_pure h⟩) htake)
    | exact wpAny_bind (m := Builtin.Tuple.tupleExact _) (wpAny_newObj_type (wpAny_bind (wpAny_pure (wpAny_pure ⟨_, rfl, wpAny_pure h⟩))) htake)
    | exact wpAny_bind (wpAny_bind (m := Builtin.Tuple.tupleExact _) (wpAny_newObj_type (wpAny_pure (wpAny_pure ⟨_, rfl, wpAny_pure h⟩)) htake))
    | exact wpAny_bind (wpAny_bind (m := Builtin.Tuple.tupleExact _) (wpAny_newObj_type (wpAny_pure ⟨_, rfl, wpAny_pure h⟩) htake))
end
def revS : OV → Res OV
  | .fz (.tup xs) => .ok (.fz (.tup xs.reverse))
  | .fz (.lst xs) => .ok (.ls (xs.reverse.map OV.fz))
  | _ => .bad
section
variable {X : Cx}
def tRev (K : PySem.W.Frag) (te : TE) : TE := fun σ H Q => te σ H fun x H1 => ∃ a xs, x = .ref a ∧ ((SqL K H1 a xs ∧ ∀ p, H1 p = none → Q (.ref p) (upd H1 p (.lst xs.reverse))) ∨ (SqT K H1 a xs ∧ ∀ p, H1 p = none → Q (.ref p) (upd H1 p (.tup xs.reverse))))
theorem pe_rev {e : Expr} {te : TE} {k : Nat} {p1 p2 p3 pos : Pos} (he : PE X e te) : PE X (.Subscript e (.Slice none none (some (.UnaryOp .USub (.Constant (.int 1) k p1) p2)) p3) pos) (tRev X.K te) := by
  refine ⟨fun pins s σ H Q I h => ?_⟩
  refine Subscript_ (thn (he.run pins s σ H _ I h) fun v s1 ⟨x, H1, I1, r1, q1⟩ => ?_)
  obtain ⟨a, xs, ex, q⟩ := q1
  subst ex
  cases r1
  have hst : PO X (some (.UnaryOp .USub (.Constant (.int 1) k p1) p2)) (tPart (tUn (rU fun i => .int (-i)) (tC (.int 1)))) := po_some (pe_un un_neg pe_int)
  refine wpAny_Slice (thn (po_none.run pins s1 σ H1 (fun o H2 => o = none ∧ H2 = H1) I1 ⟨rfl, rfl⟩) fun vl s2 ⟨l, H2, I2, pl, el, e2⟩ => ?_)
  subst el e2
  refine thn (po_none.run pins s2 σ H2 (fun o H3 => o = none ∧ H3 = H2) I2 ⟨rfl, rfl⟩) fun vu s3 ⟨u, H3, I3, pu, eu, e3⟩ => ?_
  subst eu e3
  refine thn (hst.run pins s3 σ H3 (fun o H4 => o = some (-1) ∧ H4 = H3) I3 ⟨1, rfl, -1, rfl, rfl, rfl⟩) fun vs s4 ⟨o, H4, I4, ps, eo, e4⟩ => ?_
  subst eo e4
  have I5 : Inv X pins σ H4 { s4 with heap := s4.heap.push { cls := .type "slice", data := .fields #[vl, vu, vs] } } := I4.kept (t' := s4.toks) fun b ob q => Heap.get?_push_of_some _ q
  show wpAny (model X.prog X.w) X.A (subscriptTail e (.Slice none none (some (.UnaryOp .USub (.Constant (.int 1) k p1) p2)) p3) (.ref a) (.ref s4.heap.objs.size)) (EP X pins σ Q) X.xe { s4 with heap := s4.heap.push { cls := .type "slice", data := .fields #[vl, vu, vs] } }
  rcases q with ⟨hx, q⟩ | ⟨hx, q⟩
  · obtain ⟨its, r, ht, hz⟩ := I5.list hx
    have hlen := r.length
    refine tail_any (ops := [.ref a, .ref s4.heap.objs.size]) ht.isList.typeIs (PySem.slot_list_getitem.lookup) ?_ (by with_unfolding_all rfl)
    refine wpAny_getItem_list_slice ht.isList (Heap.IsSliceOf.new _ vl vu vs) pl pu ps (by decide) ?_ (by rw [List.size_toArray]; omega)
    rw [PySem.W.krv_pick]
    refine ⟨.ref _, _, I5.laid (t' := s4.toks) (o := .lst xs.reverse) (fun b ob q => Heap.get?_push_of_some _ q) (Nat.le_refl _) ?_, rfl, q _ (I5.hok.fresh (Nat.le_refl _))⟩
    exact ⟨by rw [List.length_reverse]; exact hz, _, 0, r.reverse, Heap.get?_push_size _ rfl⟩
  · obtain ⟨its, r, ht, hz⟩ := I5.tuple hx
    have hlen := r.length
    cases pl
    cases pu
    refine tail_any (ops := [.ref a, .ref s4.heap.objs.size]) ht.typeIs (PyProof.Rows.slot_tuple_getitem.lookup) ?_ (by with_unfolding_all rfl)
    refine getItem_tuple_rev ht (Heap.IsSliceOf.new _ _ _ vs) ps ?_ (by rw [List.size_toArray]; omega)
    refine ⟨.ref _, _, I5.laid (t' := s4.toks) (o := .tup xs.reverse) (fun b ob q => Heap.get?_push_of_some _ q) (Nat.le_refl _) ?_, rfl, q _ (I5.hok.fresh (Nat.le_refl _))⟩
    exact ⟨by rw [List.length_reverse]; exact hz, _, r.reverse, IsTup.new _ _⟩
theorem xp_rev {io : List Nat} {e : Expr} {f : FP} {k : Nat} {p1 p2 p3 pos : Pos} (ha : XP X io e f) : XP X io (.Subscript e (.Slice none none (some (.UnaryOp .USub (.Constant (.int 1) k p1) p2)) p3) pos) (oneF f revS) := by
  refine pe_weak (pe_rev ha) fun σ H Q w => ?_
  obtain ⟨C, F, fp, τ, p, τ', hio, R, e, q⟩ := one_open w
  refine ⟨C, F, fp, τ, p, τ', hio, R, e, fun F1 fp1 H1 v R1 s1 w1 => ?_⟩
  obtain ⟨F2, o, r, sm, vw, hk, g⟩ := q F1 fp1 H1 v R1 s1 w1
  unfold revS at hk
  split at hk
  · cases hk
    obtain ⟨a, vs, rfl, l, rr⟩ := vw.tup sm
    exact ⟨a, vs, rfl, .inr ⟨l, fun p np => g _ _ _ (Grow.tup sm np rr.reverse)⟩⟩
  · cases hk
    obtain ⟨a, vs, rfl, l, rr⟩ := vw.list sm rfl
    exact ⟨a, vs, rfl, .inl ⟨l.sql, fun p np => g _ _ _ (Grow.lst sm np rr.reverse)⟩⟩
  · cases hk
end
end Pf

/-! V0: the functions as plain ones of data; the rules that lead there. -/
namespace Pf
open PySem PySem.Spec PyProof.Rows L2
theorem bind_as {α β γ : Type} (x : Res α) (f : α → Res β) (g : β → Res γ) : (x.bind f).bind g = x.bind fun a => (f a).bind g := by cases x <;> rfl
theorem ite_bi {α β : Type} (b : Bool) (x y : Res α) (f : α → Res β) : (if b = true then x else y).bind f = if b = true then x.bind f else y.bind f := by cases b <;> rfl
theorem bind_id {α : Type} (x : Res α) : (x.bind fun a => Res.ok a) = x := by cases x <;> rfl
/-- a list of data as a slot's own -/
def wl (ds : List D) : OV := .ls (ds.map OV.fz)
theorem wl_er (ds : List D) : (wl ds).er = .lst ds := by unfold wl; rw [OV.er, OV.ers_fz]
theorem wl_eq (ds : List D) : OV.ls (ds.map OV.fz) = wl ds := (rfl)
/-- an operation's answer, a list being new -/
def wr : D → OV
  | .lst ds => wl ds
  | d => .fz d
theorem wr_er (d : D) : (wr d).er = d := by
  cases d <;> first | rfl | exact wl_er _
/-! operations on data -/
def lift2 (k : OV → OV → Res OV) (a b : D) : Res D := (k (.fz a) (.fz b)).bind fun o => .ok o.er
def idxV : D → D → Res D := lift2 idxS
def addV : D → D → Res D := lift2 addS
def subV : D → D → Res D := lift2 subS
def mulV : D → D → Res D := lift2 mulS
def divV : D → D → Res D := lift2 divS
def modV : D → D → Res D := lift2 modS
def powV : D → D → Res D := lift2 powS
def eqV (a b : D) : Res Bool := gd (depOk a b) (D.eqv a b)
def neV (a b : D) : Res Bool := gd (depOk a b) (!D.eqv a b)
def ltV (a b : D) : Res Bool := gd (cmpOk a b) (D.lt a b)
def gtV (a b : D) : Res Bool := gd (cmpOk a b) (D.lt b a)
def leV (a b : D) : Res Bool := gd (cmpOk a b) (!D.lt b a)
def geV (a b : D) : Res Bool := gd (cmpOk a b) (!D.lt a b)
def isNonD : D → Bool
  | .non => true
  | _ => false
def isV (a b : D) : Res Bool := gd (isNonD b) (isNonD a)
def isnotV (a b : D) : Res Bool := gd (isNonD b) (!isNonD a)
def memV (neg : Bool) (a b : D) : Res Bool := match a, b with
  | .str x, .str y => .ok (neg.xor (inSign x y))
  | d, e => match itemsEr e with
    | some es => gd (decide (d.dep ≤ 60)) (neg.xor (D.mem d es))
    | none => .bad
theorem gd_bind {α β : Type} (c : Bool) (a : α) (f : α → Res β) : (gd c a).bind f = if c = true then f a else .bad := by cases c <;> rfl
theorem gd_map {α β : Type} (c : Bool) (a : α) (f : α → β) : gd c (f a) = (gd c a).bind fun x => .ok (f x) := by cases c <;> rfl
theorem isNon_fz (d : D) : isNon (.fz d) = isNonD d := by cases d <;> rfl
theorem isNon_wl (ds : List D) : isNon (wl ds) = false := (rfl)
theorem eq_v (x y : OV) : eqS x y = (eqV x.er y.er).bind fun b => .ok (.fz (.bl b)) := gd_map _ _ fun b => OV.fz (.bl b)
theorem ne_v (x y : OV) : neS x y = (neV x.er y.er).bind fun b => .ok (.fz (.bl b)) := gd_map _ _ fun b => OV.fz (.bl b)
theorem lt_v (x y : OV) : ltS x y = (ltV x.er y.er).bind fun b => .ok (.fz (.bl b)) := gd_map _ _ fun b => OV.fz (.bl b)
theorem gt_v (x y : OV) : gtS x y = (gtV x.er y.er).bind fun b => .ok (.fz (.bl b)) := gd_map _ _ fun b => OV.fz (.bl b)
theorem le_v (x y : OV) : leS x y = (leV x.er y.er).bind fun b => .ok (.fz (.bl b)) := gd_map _ _ fun b => OV.fz (.bl b)
theorem ge_v (x y : OV) : geS x y = (geV x.er y.er).bind fun b => .ok (.fz (.bl b)) := gd_map _ _ fun b => OV.fz (.bl b)
theorem isNon_er : ∀ o : OV, isNon o = isNonD o.er
  | .fz d => by rw [isNon_fz]; rfl
  | .ls xs => rfl
theorem is_v (x y : OV) : isS x y = (isV x.er y.er).bind fun b => .ok (.fz (.bl b)) := by
  unfold isS isV
  rw [isNon_er, isNon_er]
  exact gd_map _ _ fun b => OV.fz (.bl b)
theorem isnot_v (x y : OV) : isnotS x y = (isnotV x.er y.er).bind fun b => .ok (.fz (.bl b)) := by
  unfold isnotS isnotV
  rw [isNon_er, isNon_er]
  exact gd_map _ _ fun b => OV.fz (.bl b)
theorem mem_v (neg : Bool) (x y : OV) : memS neg x y = (memV neg x.er y.er).bind fun b => .ok (.fz (.bl b)) := by
  unfold memS memV
  generalize x.er = d
  generalize y.er = e
  cases d <;> cases e <;> first | rfl | (dsimp only [itemsEr]; exact gd_map _ _ fun b => OV.fz (.bl b))
theorem idx_v (a b : D) : idxS (.fz a) (.fz b) = (idxV a b).bind fun d => .ok (.fz d) := by
  have h : ∀ o, idxS (.fz a) (.fz b) = .ok o → ∃ d, o = .fz d := by
    intro o e
    cases a <;> cases b <;> unfold idxS at e <;> dsimp only at e <;> try (cases e)
    · rename_i x i
      by_cases hz : x.length ≤ sizeLine
      · rw [if_pos hz] at e
        cases h : atI x.cps.toList i <;> rw [h] at e <;> cases e
        exact ⟨_, rfl⟩
      · rw [if_neg hz] at e; cases e
    · rename_i x i
      cases h : atI x i <;> rw [h] at e <;> cases e
      exact ⟨_, rfl⟩
    · rename_i x i
      cases h : atI x i <;> rw [h] at e <;> cases e
      exact ⟨_, rfl⟩
  unfold idxV lift2
  cases e : idxS (.fz a) (.fz b) with
  | bad => rfl
  | ok o =>
    obtain ⟨d, rfl⟩ := h o e
    rfl
theorem idx_wl (ds : List D) (b : D) : idxS (wl ds) (.fz b) = (idxV (.lst ds) b).bind fun d => .ok (.fz d) := by
  rw [← idx_v]
  unfold wl idxS
  cases b <;> try rfl
  rename_i i
  dsimp only
  have : atI (ds.map OV.fz) i = (atI ds i).map OV.fz := by
    unfold atI
    rw [List.length_map]
    cases ixN ds.length i <;> simp
  rw [this]
  cases atI ds i <;> rfl
theorem add_v (a b : D) : addS (.fz a) (.fz b) = (addV a b).bind fun d => .ok (wr d) := by
  have h : ∀ o, addS (.fz a) (.fz b) = .ok o → o = wr o.er := by
    intro o e
    unfold addS at e
    split at e
    all_goals first
      | (cases e; rfl)
      | (obtain ⟨_, e⟩ := gd_ok e; cases e; rfl)
      | (unfold catS at e; split at e <;> first | (obtain ⟨_, e⟩ := gd_ok e; cases e; rw [wl_eq, wl_er]; rfl) | cases e)
      | cases e
  unfold addV lift2
  cases e : addS (.fz a) (.fz b) with
  | bad => rfl
  | ok o => show Res.ok o = .ok (wr o.er); rw [← h o e]
theorem sub_v (a b : D) : subS (.fz a) (.fz b) = (subV a b).bind fun d => .ok (.fz d) := by
  unfold subV lift2
  cases a <;> cases b <;> rfl
theorem mul_v (a b : D) : mulS (.fz a) (.fz b) = (mulV a b).bind fun d => .ok (wr d) := by
  have h : ∀ o, mulS (.fz a) (.fz b) = .ok o → o = wr o.er := by
    intro o e
    unfold mulS at e
    split at e
    all_goals first
      | (obtain ⟨_, e⟩ := gd_ok e; cases e; rfl)
      | (unfold repS at e; split at e <;> first | (obtain ⟨_, e⟩ := gd_ok e; cases e; rw [wl_eq, wl_er]; rfl) | cases e)
      | cases e
  unfold mulV lift2
  cases e : mulS (.fz a) (.fz b) with
  | bad => rfl
  | ok o => show Res.ok o = .ok (wr o.er); rw [← h o e]
theorem gd_int {c : Bool} {i : Int} : (gd c (OV.fz (.int i))) = ((gd c (OV.fz (.int i))).bind fun o => Res.ok o.er).bind fun d => .ok (.fz d) := by cases c <;> rfl
theorem div_v (a b : D) : divS (.fz a) (.fz b) = (divV a b).bind fun d => .ok (.fz d) := by
  unfold divV lift2
  cases a <;> cases b <;> first | rfl | exact gd_int
theorem mod_v (a b : D) : modS (.fz a) (.fz b) = (modV a b).bind fun d => .ok (.fz d) := by
  unfold modV lift2
  cases a <;> cases b <;> first | rfl | exact gd_int
theorem pow_v (a b : D) : powS (.fz a) (.fz b) = (powV a b).bind fun d => .ok (.fz d) := by
  unfold powV lift2
  cases a <;> cases b <;> first | rfl | exact gd_int
/-! truth -/
def truV (d : D) : Res Bool := truthOf (.fz d)
theorem tru_v (d : D) : truthOf (.fz d) = truV d := (rfl)
theorem tru_wl (ds : List D) : truthOf (wl ds) = .ok (!ds.isEmpty) := by
  unfold wl truthOf
  dsimp only
  cases ds <;> rfl
theorem truV_bl (b : Bool) : truV (.bl b) = .ok b := (rfl)
/-! one value -/
def lift1 (k : List OV → Res OV) (a : D) : Res D := (k [.fz a]).bind fun o => .ok o.er
def lenV : D → Res D := lift1 lenS
def intV : D → Res D := lift1 intS
def absV : D → Res D := lift1 absS
def tupV : D → Res D := lift1 tupS
def reprV : D → Res D := lift1 reprS
def sumV : D → Res D := lift1 sumS
def maxV : D → Res D := lift1 maxS
def minV : D → Res D := lift1 minS
def allV (a : Bool) : D → Res Bool := fun d => match d with
  | .lst ds => match blsOf ds with
    | some ns => .ok (if a then ns.all id else ns.any id)
    | none => .bad
  | _ => .bad
def lstV : D → Res (List D) := fun d => match d with
  | .lst ds => .ok ds
  | .tup ds => .ok ds
  | _ => .bad
theorem len_v (d : D) : lenS [.fz d] = (lenV d).bind fun d => .ok (.fz d) := by
  unfold lenV lift1 lenS
  dsimp only
  cases lenOf (.fz d) <;> rfl
theorem len_wl (ds : List D) : lenS [wl ds] = (lenV (.lst ds)).bind fun d => .ok (.fz d) := by
  unfold lenV lift1 lenS lenOf wl
  simp [OV.er, Res.bind]
theorem int_v (d : D) : intS [.fz d] = (intV d).bind fun d => .ok (.fz d) := by
  unfold intV lift1
  cases d <;> rfl
theorem abs_v (d : D) : absS [.fz d] = (absV d).bind fun d => .ok (.fz d) := by
  unfold absV lift1
  cases d <;> rfl
theorem tup_v (d : D) : tupS [.fz d] = (tupV d).bind fun d => .ok (.fz d) := by
  unfold tupV lift1
  cases d <;> rfl
theorem tup_wl (ds : List D) : tupS [wl ds] = (tupV (.lst ds)).bind fun d => .ok (.fz d) := by
  have h : seqOf (wl ds) = some ds := by
    show allFz (ds.map OV.fz) = _
    exact allFz_map ds
  unfold tupS
  dsimp only
  rw [h]
  rfl
theorem lst_v (d : D) : lstS [.fz d] = (lstV d).bind fun ds => .ok (wl ds) := by
  cases d <;> rfl
theorem repr_v (d : D) : reprS [.fz d] = (reprV d).bind fun d => .ok (.fz d) := by
  unfold reprV lift1 reprS
  dsimp only
  rw [gd_bind]
  split <;> simp_all [gd, Res.bind, OV.er]
theorem repr_wl (ds : List D) : reprS [wl ds] = (reprV (.lst ds)).bind fun d => .ok (.fz d) := by
  rw [← repr_v]
  unfold reprS
  dsimp only
  rw [wl_er]
  rfl
theorem all_v (a : Bool) (d : D) : allS a [.fz d] = (allV a d).bind fun b => .ok (.fz (.bl b)) := by
  cases d <;> first | rfl | skip
  rename_i ds
  unfold allS allV
  dsimp only [listOf]
  cases blsOf ds <;> rfl
theorem sum_v (d : D) : sumS [.fz d] = (sumV d).bind fun d => .ok (.fz d) := by
  unfold sumV lift1
  cases d <;> first | rfl | skip
  rename_i ds
  unfold sumS
  dsimp only [listOf]
  cases intsOf ds <;> rfl
def sortV (d : D) : Res (List D) := match sortS [.fz d] with
  | .ok (.ls xs) => .ok (OV.ers xs)
  | _ => .bad
end Pf

/-! V1: loops, comprehensions, branches as plain functions. -/
namespace Pf
open PySem PySem.Spec PyProof.Rows L2
/-! ### slots that are no longer wanted -/
def wipeS (is : List Nat) (g : FS) : FS := fun τ => (g τ).bind fun (fl, τ1) => .ok (fl, wipeT τ1 is)
def preS (is : List Nat) (g : FS) : FS := fun τ => g (wipeT τ is)
theorem slotAt_set_none {τ : T} {i j : Nat} {o : OV} (h : slotAt (τ.set i none) j = some o) : slotAt τ j = some o := by
  by_cases hj : i = j
  · subst hj
    unfold slotAt at h
    rw [List.getElem?_set_self'] at h
    cases e : τ[i]? <;> rw [e] at h <;> cases h
  · rwa [slotAt_set_ne hj] at h
theorem wipeT_sub {τ : T} {j : Nat} {o : OV} : ∀ {is : List Nat}, slotAt (wipeT τ is) j = some o → slotAt τ j = some o
  | [], h => h
  | i :: is, h => wipeT_sub (is := is) (slotAt_set_none h)
theorem Rel.drop {K : PySem.W.Frag} {C : Fx} {F : Hp} {fp : Nat → List Addr} {τ : T} {σ : L2.St} {H : Hp} (R : Rel K C F fp τ σ H) (is : List Nat) : Rel K C F fp (wipeT τ is) σ H :=
  { R with len := by rw [wipeT_len]; exact R.len, slot := fun i o h => R.slot i o (wipeT_sub h) }
section
variable {X : Cx} {io : List Nat} {s : Stmt} {ss : List Stmt} {g : FS}
theorem drop_open {is : List Nat} {D : Ends} {σ : L2.St} {H : Hp} (h : rdS X.K io (wipeS is g) D σ H) : rdS X.K io g D σ H := by
  obtain ⟨C, F, fp, τ, fl, τ', hio, R, e, q⟩ := h
  unfold wipeS at e
  obtain ⟨⟨fl1, τ1⟩, e1, e⟩ := Res.bind_ok e
  cases e
  exact ⟨C, F, fp, τ, fl, τ1, hio, R, e1, fun F' fp' σ' H' R' s' => q F' fp' σ' H' (R'.drop is) s'⟩
theorem pre_open {is : List Nat} {D : Ends} {σ : L2.St} {H : Hp} (h : rdS X.K io (preS is g) D σ H) : rdS X.K io g D σ H := by
  obtain ⟨C, F, fp, τ, fl, τ', hio, R, e, q⟩ := h
  exact ⟨C, F, fp, _, fl, τ', hio, R.drop is, e, q⟩
theorem xs_wipe (is : List Nat) (h : XS X io s g) : XS X io s (wipeS is g) := ps_weak h fun D σ H w => drop_open w
theorem xs_pre (is : List Nat) (h : XS X io s g) : XS X io s (preS is g) := ps_weak h fun D σ H w => pre_open w
theorem xb_wipe (is : List Nat) (h : XB X io ss g) : XB X io ss (wipeS is g) := pss_weak h fun D σ H w => drop_open w
theorem xb_pre (is : List Nat) (h : XB X io ss g) : XB X io ss (preS is g) := pss_weak h fun D σ H w => pre_open w
end
/-- a new value, frozen -/
def frzF (f : FP) : FP := fun τ => (f τ).bind fun (p, τ1) => .ok (opd p, τ1)
theorem xp_frz {X : Cx} {io : List Nat} {e : Expr} {f : FP} (h : XP X io e f) : XP X io e (frzF f) := pe_weak h fun σ H Q ⟨C, F, fp, τ, p, τ', hio, R, e, q⟩ => by
  unfold frzF at e
  obtain ⟨⟨p1, τ1⟩, e1, e⟩ := Res.bind_ok e
  cases e
  refine ⟨C, F, fp, τ, p1, _, hio, R, e1, fun F' fp' H' v R' s' w => ?_⟩
  obtain ⟨F2, R2, s2, w2⟩ := R'.opd w
  exact q F2 fp' H' v R2 (s'.trans s2) w2.preR

/-! ### plain loops -/
inductive FlV (S R : Type) where
  | nx (s : S)
  | bk (s : S)
  | rt (r : R)
def onV {S R B : Type} (k : S → Res B) (r : R → Res B) : FlV S R → Res B
  | .nx s => k s
  | .bk s => k s
  | .rt x => r x
theorem onV_nx {S R B : Type} (k : S → Res B) (r : R → Res B) (s : S) : onV k r (.nx s) = k s := (rfl)
theorem onV_rt {S R B : Type} (k : S → Res B) (r : R → Res B) (x : R) : onV k r (.rt x) = r x := (rfl)
theorem onV_bi {S R B C : Type} (k : S → Res B) (r : R → Res B) (f : B → Res C) (o : FlV S R) : (onV k r o).bind f = onV (fun s => (k s).bind f) (fun x => (r x).bind f) o := by cases o <;> rfl
/-- over all items, no way out -/
def foldV {S : Type} (f : D → S → Res S) : List D → S → Res S
  | [], s => .ok s
  | d :: ds, s => (f d s).bind (foldV f ds)
/-- over all items, with ways out -/
def forV {S R : Type} (f : D → S → Res (FlV S R)) : List D → S → Res (FlV S R)
  | [], s => .ok (.nx s)
  | d :: ds, s => (f d s).bind fun o => match o with
    | .nx s' => forV f ds s'
    | .bk s' => .ok (.nx s')
    | .rt r => .ok (.rt r)
def whlV {S : Type} (c : S → Res Bool) (f : S → Res S) : Nat → S → Res S
  | 0, _ => .bad
  | n + 1, s => (c s).bind fun b => if b = true then (f s).bind (whlV c f n) else .ok s
def whlVR {S R : Type} (c : S → Res Bool) (f : S → Res (FlV S R)) : Nat → S → Res (FlV S R)
  | 0, _ => .bad
  | n + 1, s => (c s).bind fun b => if b = true then (f s).bind fun o => (match o with
    | .nx s' => whlVR c f n s'
    | .bk s' => .ok (.nx s')
    | .rt r => .ok (.rt r)) else .ok (.nx s)
theorem forL_fold {S : Type} {g : FG} {b : FS} {t : S → T} {f : D → S → Res S} (h : ∀ d s, (g d (t s)).bind b = (f d s).bind fun s' => .ok (.nx, t s')) : ∀ ds s, forL g b ds (t s) = (foldV f ds s).bind fun s' => .ok (.nx, t s')
  | [], s => rfl
  | d :: ds, s => by
    rw [forL_cons, foldV]
    have e : (g d (t s)).bind (forK1 g b ds) = ((g d (t s)).bind b).bind (forK2 g b ds) := by rw [bind_as]; rfl
    rw [e, h, bind_as, bind_as]
    congr 1
    funext s'
    exact forL_fold h ds s'
theorem forL_for {S R : Type} {g : FG} {b : FS} {t : S → T} {u : R → OV × T} {f : D → S → Res (FlV S R)}
    (h : ∀ d s, (g d (t s)).bind b = (f d s).bind fun o => .ok (match o with | .nx s' => (.nx, t s') | .bk s' => (.bk, t s') | .rt r => (.rt (u r).1, (u r).2))) :
    ∀ ds s, forL g b ds (t s) = (forV f ds s).bind (onV (fun s' => .ok (.nx, t s')) fun r => .ok (.rt (u r).1, (u r).2))
  | [], s => rfl
  | d :: ds, s => by
    rw [forL_cons, forV]
    have e : (g d (t s)).bind (forK1 g b ds) = ((g d (t s)).bind b).bind (forK2 g b ds) := by rw [bind_as]; rfl
    rw [e, h, bind_as, bind_as]
    congr 1
    funext o
    cases o with
    | nx s' => exact forL_for h ds s'
    | bk s' => rfl
    | rt r => rfl
theorem whl_fold {S : Type} {c : FP} {b : FS} {t : S → T} {cv : S → Res Bool} {f : S → Res S} (hc : ∀ s, tru c (t s) = (cv s).bind fun k => .ok (k, t s)) (h : ∀ s, b (t s) = (f s).bind fun s' => .ok (.nx, t s')) :
    ∀ n s, whl c b n (t s) = (whlV cv f n s).bind fun s' => .ok (.nx, t s')
  | 0, s => rfl
  | n + 1, s => by
    rw [whl_e, whlV, hc, bind_as, bind_as]
    congr 1
    funext k
    cases k with
    | false => rfl
    | true =>
      rw [okb, whlK_t, h, if_pos rfl, bind_as, bind_as]
      congr 1
      funext s'
      exact whl_fold hc h n s'
theorem whl_for {S R : Type} {c : FP} {b : FS} {t : S → T} {u : R → OV × T} {cv : S → Res Bool} {f : S → Res (FlV S R)} (hc : ∀ s, tru c (t s) = (cv s).bind fun k => .ok (k, t s))
    (h : ∀ s, b (t s) = (f s).bind fun o => .ok (match o with | .nx s' => (.nx, t s') | .bk s' => (.bk, t s') | .rt r => (.rt (u r).1, (u r).2))) :
    ∀ n s, whl c b n (t s) = (whlVR cv f n s).bind (onV (fun s' => .ok (.nx, t s')) fun r => .ok (.rt (u r).1, (u r).2))
  | 0, s => rfl
  | n + 1, s => by
    rw [whl_e, whlVR, hc, bind_as, bind_as]
    congr 1
    funext k
    cases k with
    | false => rfl
    | true =>
      rw [okb, whlK_t, h, if_pos rfl, bind_as, bind_as]
      congr 1
      funext o
      cases o with
      | nx s' => exact whl_for hc h n s'
      | bk s' => rfl
      | rt r => rfl
/-! ### comprehensions -/
def mapW (f : D → Res (Option D)) : List D → Res (List D)
  | [] => .ok []
  | d :: ds => (f d).bind fun o => (mapW f ds).bind fun l => .ok (match o with | some x => x :: l | none => l)
/-- [.. for d in ds if ..], nothing changed -/
def mapV (f : D → Res (Option D)) (ds : List D) : Res (List D) := (mapW f ds).bind fun l => gd (decide (l.length ≤ sizeLine)) l
def mapWS {S : Type} (f : D → S → Res (Option D × S)) : List D → S → Res (List D × S)
  | [], s => .ok ([], s)
  | d :: ds, s => (f d s).bind fun o => (mapWS f ds o.2).bind fun l => .ok ((match o.1 with | some x => x :: l.1 | none => l.1), l.2)
/-- the same where something is changed on the way -/
def mapVS {S : Type} (f : D → S → Res (Option D × S)) (ds : List D) (s : S) : Res (List D × S) := (mapWS f ds s).bind fun l => gd (decide (l.1.length ≤ sizeLine)) l
/-- one turn -/
def turnX (io : List Nat) (own : Bool) (g : FG) (c : T → Res (Bool × T)) (f : FP) (d : D) : T → Res (Option OV × T) := fun τ => (g d τ).bind fun τ1 => (c τ1).bind fun b => if b.1 = true then (f b.2).bind fun p => (take io own p.1 p.2).bind fun r => .ok (some r.1, r.2)
  else .ok (none, b.2)
def wipK (vs : List Nat) : Option OV × T → Res (Option OV × T) := fun x => .ok (x.1, wipeT x.2 vs)
def turnC (io vs : List Nat) (own : Bool) (g : FG) (c : T → Res (Bool × T)) (f : FP) (d : D) : T → Res (Option OV × T) := fun τ => (turnX io own g c f d τ).bind (wipK vs)
theorem compL_cons (io vs : List Nat) (own : Bool) (g : FG) (c : T → Res (Bool × T)) (f : FP) (d : D) (ds : List D) (acc : List OV) (τ : T) : compL io vs own g c f (d :: ds) acc τ = (turnX io own g c f d (wipeT τ vs)).bind fun x =>
    match x.1 with
    | some r => if acc.length < sizeLine then compL io vs own g c f ds (acc ++ [r]) x.2 else .bad
    | none => compL io vs own g c f ds acc x.2 := by
  rw [compL]
  unfold turnX
  rw [bind_as]
  congr 1
  funext τ1
  rw [bind_as]
  congr 1
  funext ⟨b, τ2⟩
  cases b with
  | false => rfl
  | true =>
    dsimp only
    rw [if_pos rfl, if_pos rfl, bind_as]
    congr 1
    funext ⟨p, τ3⟩
    dsimp only
    rw [bind_as]
    rfl
theorem compL_mapS {S : Type} {io vs : List Nat} {own : Bool} {g : FG} {c : T → Res (Bool × T)} {f : FP} {t : S → T} {fv : D → S → Res (Option D × S)} (h : ∀ d s, turnC io vs own g c f d (t s) = (fv d s).bind fun o => .ok (o.1.map OV.fz, t o.2)) :
    ∀ ds acc s τ, wipeT τ vs = t s → (compL io vs own g c f ds acc τ).bind (fun x => .ok (x.1, wipeT x.2 vs)) = (mapWS fv ds s).bind fun l => if acc.length + l.1.length ≤ sizeLine ∨ l.1 = [] then .ok (acc ++ l.1.map OV.fz, t l.2) else .bad
  | [], acc, s, τ, e => by
    rw [compL, mapWS, okb, okb, e]
    simp
  | d :: ds, acc, s, τ, e => by
    have h1 := h d s
    unfold turnC at h1
    rw [compL_cons, mapWS, e]
    cases hx : turnX io own g c f d (t s) with
    | bad =>
      rw [hx] at h1
      cases hf : fv d s with
      | bad => rfl
      | ok o => rw [hf] at h1; cases h1
    | ok x =>
      obtain ⟨r, τ2⟩ := x
      rw [hx] at h1
      cases hf : fv d s with
      | bad => rw [hf] at h1; cases h1
      | ok o =>
        obtain ⟨q, s2⟩ := o
        rw [hf] at h1
        have h2 : (r, wipeT τ2 vs) = (q.map OV.fz, t s2) := Res.ok.inj h1
        obtain ⟨h3, h4⟩ := Prod.mk.inj h2
        cases q with
        | none =>
          subst h3
          show (compL io vs own g c f ds acc τ2).bind _ = ((mapWS fv ds s2).bind _).bind _
          rw [compL_mapS h ds acc s2 τ2 h4, bind_as]
          rfl
        | some q =>
          subst h3
          show (if acc.length < sizeLine then compL io vs own g c f ds (acc ++ [.fz q]) τ2 else Res.bad).bind _ = ((mapWS fv ds s2).bind _).bind _
          rw [bind_as]
          by_cases hl : acc.length < sizeLine
          · rw [if_pos hl, compL_mapS h ds (acc ++ [OV.fz q]) s2 τ2 h4]
            congr 1
            funext l
            rw [okb]
            simp only [List.length_append, List.length_cons, List.length_nil, List.map_cons, List.append_assoc, List.singleton_append]
            by_cases hq : l.1 = []
            · simp only [hq, List.length_nil, List.map_nil]
              rw [if_pos (.inr trivial), if_pos (.inl (by omega))]
            · have e3 : acc.length + (0 + 1) + l.1.length = acc.length + (l.1.length + 1) := by omega
              simp only [e3, hq, or_false, reduceCtorEq]
          · rw [if_neg hl]
            cases hm : mapWS fv ds s2 with
            | bad => rfl
            | ok l =>
              rw [okb, okb, badb, if_neg]
              simp
              omega
/-- a comprehension that changes something on the way -/
theorem comp_vS {S : Type} {io vs : List Nat} {g : FG} {c : T → Res (Bool × T)} {f : FP} {t : S → T} {fv : D → S → Res (Option D × S)} (h : ∀ d s, turnC io vs false g c f d (t s) = (fv d s).bind fun o => .ok (o.1.map OV.fz, t o.2))
    (ds : List D) (s : S) (τ : T) (e : wipeT τ vs = t s) (hz : (vs.all (noOwn τ) && vs.all (fun i => decide (i ∉ io))) = true) :
    compK io vs false g c f (ds, τ) = (mapVS fv ds s).bind fun l => .ok (.val (wl l.1), backT (t l.2) τ vs) := by
  rw [compK_e _ _ _ _ _ _ _ _ hz]
  have h1 := compL_mapS (t := t) (own := false) h ds [] s τ e
  have h2 : (compL io vs false g c f ds [] τ).bind (compK2 vs τ) = ((compL io vs false g c f ds [] τ).bind (fun x => .ok (x.1, wipeT x.2 vs))).bind fun y => .ok (.val (.ls y.1), backT y.2 τ vs) := by
    rw [bind_as]; rfl
  rw [h2, h1]
  unfold mapVS
  rw [bind_as, bind_as]
  congr 1
  funext l
  simp only [List.length_nil, Nat.zero_add, List.nil_append]
  by_cases hl : l.1.length ≤ sizeLine
  · rw [if_pos (.inl hl), decide_eq_true hl]
    rfl
  · rw [if_neg, decide_eq_false hl]
    · rfl
    · rintro (z | z)
      · exact hl z
      · rw [z] at hl; exact hl (Nat.zero_le _)
theorem mapWS_unit (f : D → Res (Option D)) : ∀ ds, mapWS (S := Unit) (fun d _ => (f d).bind fun o => .ok (o, ())) ds () = (mapW f ds).bind fun l => .ok (l, ())
  | [] => rfl
  | d :: ds => by
    rw [mapWS, mapW, bind_as, bind_as]
    congr 1
    funext o
    rw [okb, mapWS_unit f ds, bind_as, bind_as]
    rfl
/-- a comprehension that changes nothing -/
theorem comp_v {io vs : List Nat} {g : FG} {c : T → Res (Bool × T)} {f : FP} {fv : D → Res (Option D)} (τ0 τ : T) (e : wipeT τ vs = τ0) (hz : (vs.all (noOwn τ) && vs.all (fun i => decide (i ∉ io))) = true)
    (h : ∀ d, turnC io vs false g c f d τ0 = (fv d).bind fun o => .ok (o.map OV.fz, τ0)) (ds : List D) :
    compK io vs false g c f (ds, τ) = (mapV fv ds).bind fun l => .ok (.val (wl l), backT τ0 τ vs) := by
  rw [comp_vS (S := Unit) (t := fun _ => τ0) (fv := fun d _ => (fv d).bind fun o => .ok (o, ())) (fun d s => by rw [h d, bind_as]; rfl) ds () τ e hz]
  unfold mapVS mapV
  rw [mapWS_unit, bind_as, bind_as, bind_as]
  congr 1
  funext l
  rw [okb, gd_bind, gd_bind]
end Pf

/-! V2: step rules towards plain functions. -/
namespace Pf
open PySem PySem.Spec PyProof.Rows L2
/-! slots with own lists -/
theorem frz_wl (io : List Nat) (i : Nat) (τ : T) (ds : List D) (h : decide (i ∈ io) = false) : frzSlot io i τ (some (wl ds)) = .ok (.lst ds, τ.set i (some (.fz (.lst ds)))) := by
  unfold wl frzSlot
  dsimp only
  rw [if_neg (of_decide_eq_false h), OV.er, OV.ers_fz]
theorem give_wl (io : List Nat) (i : Nat) (τ : T) (ds : List D) (h : decide (i ∈ io) = false) : giveSlot io i τ (some (wl ds)) = .ok (wl ds, τ.set i none) := by
  unfold wl giveSlot
  dsimp only
  rw [if_neg (of_decide_eq_false h)]
theorem lstF_v (h : FA) (τ : T) : lstF h τ = (h τ).bind (tupK wl) := lstF_e h τ
theorem noOwn_n (τ : T) (i : Nat) : noOwn τ i = (match slotAt τ i with | some (.ls _) => false | _ => true) := (rfl)
theorem ret_v {io : List Nat} {f : FP} {τ : T} : retS io f τ = (f τ).bind (retK io) := (rfl)
/-! methods -/
def appV (xs : List D) (d : D) : Res (List D) := gd (decide (xs.length < sizeLine)) (xs ++ [d])
def extV (xs : List D) : D → Res (List D)
  | .lst es => gd (decide (xs.length + es.length ≤ sizeLine)) (xs ++ es)
  | _ => .bad
def insV (xs : List D) (i d : D) : Res (List D) := match i with
  | .int i => gd (decide (0 ≤ i ∧ i < 2 ^ 62 ∧ xs.length < sizeLine)) (xs.take i.toNat ++ [d] ++ xs.drop i.toNat)
  | _ => .bad
def popV (xs : List D) : Res (D × List D) := match xs[xs.length - 1]? with
  | some d => .ok (d, xs.dropLast)
  | none => .bad
theorem mthL_v (i : Nat) (h : FA) (k : List OV → List D → Res (D × List OV)) (τ : T) (xs : List D) : mthL i h k τ (some (wl xs)) = (h τ).bind (mthK i k) := (rfl)
theorem mthM_v (i : Nat) (k : List OV → List D → Res (D × List OV)) (τ : T) (xs ds : List D) : mthM i k τ (some (wl xs)) (some ds) = (k (xs.map OV.fz) ds).bind (mthN i τ) := (rfl)
theorem mthN_v (i : Nat) (τ : T) (d : D) (ys : List D) : mthN i τ (d, ys.map OV.fz) = .ok (.val (.fz d), τ.set i (some (wl ys))) := (rfl)
theorem app_v (xs : List D) (d : D) : appendM (xs.map OV.fz) [d] = (appV xs d).bind fun ys => .ok (.non, ys.map OV.fz) := by
  unfold appendM appV
  dsimp only
  rw [List.length_map, gd_bind]
  unfold gd
  rw [List.map_append]
  rfl
theorem ext_v (xs : List D) (d : D) : extendM (xs.map OV.fz) [d] = (extV xs d).bind fun ys => .ok (.non, ys.map OV.fz) := by
  cases d <;> first | rfl | skip
  rename_i es
  unfold extendM extV
  dsimp only
  rw [List.length_map, gd_bind]
  unfold gd
  rw [List.map_append]
theorem ins_v (xs : List D) (i d : D) : insertM (xs.map OV.fz) [i, d] = (insV xs i d).bind fun ys => .ok (.non, ys.map OV.fz) := by
  cases i <;> first | rfl | skip
  rename_i i
  unfold insertM insV
  dsimp only
  rw [List.length_map, gd_bind]
  unfold gd
  rw [List.map_append, List.map_append, List.map_take, List.map_drop]
  rfl
theorem pop_v (xs : List D) : popM (xs.map OV.fz) [] = (popV xs).bind fun x => .ok (x.1, x.2.map OV.fz) := by
  unfold popM popV lastOf
  dsimp only
  rw [List.length_map, List.getElem?_map]
  cases xs[xs.length - 1]? with
  | none => rfl
  | some d => simp [Res.bind, List.map_dropLast]
/-! stores -/
def stV (xs : List D) (k d : D) : Res (List D) := match k with
  | .int k => match ixN xs.length k with
    | some j => .ok (xs.set j d)
    | none => .bad
  | _ => .bad
theorem ixN_lt {n : Nat} {k : Int} {j : Nat} (h : ixN n k = some j) : j < n := by
  unfold ixN at h
  split at h
  · split at h
    · cases h; omega
    · cases h
  · split at h
    · cases h; omega
    · cases h
def stQ (k : D) (i : Nat) (d : D) (τ : T) : Option OV → Res (Fl × T)
  | some o => stM (intOf (some (.fz k))) i d (τ.set i (some o))
  | none => stM (intOf (some (.fz k))) i d τ
def stW (i : Nat) (d : D) (τ : T) : Option OV → Res (Fl × T)
  | some (.fz k) => stM (intOf (some (.fz k))) i d τ
  | o => stM (intOf o) i d τ
theorem stL3_v (i : Nat) (d : D) (r : Pre) (τ : T) : stL3 i d (r, τ) = stW i d τ (vw τ (opd r)) := by
  show stM (intOf (vw τ (opd r))) i d τ = _
  unfold stW
  cases vw τ (opd r) with
  | none => rfl
  | some o => cases o <;> rfl
def stX (i : Nat) (k d : D) (τ : T) : Option OV → Res (Fl × T)
  | some (.ls xs) => match allFz xs with
    | some ds => (stV ds k d).bind fun ys => .ok (.nx, τ.set i (some (wl ys)))
    | none => stM (intOf (some (.fz k))) i d τ
  | _ => stM (intOf (some (.fz k))) i d τ
theorem stW_v (i : Nat) (k d : D) (τ : T) : stW i d τ (some (.fz k)) = stX i k d τ (slotAt τ i) := by
  show stM (intOf (some (.fz k))) i d τ = _
  unfold stX
  cases e : slotAt τ i with
  | none => rfl
  | some o =>
    cases o with
    | fz _ => rfl
    | ls xs =>
      dsimp only
      cases ha : allFz xs with
      | none => rfl
      | some ds =>
        dsimp only
        have hx := allFz_eq ha
        subst hx
        cases k <;> first | rfl | skip
        rename_i k
        show (setAt i k d τ).bind nxK = _
        rw [setAt_e, e]
        unfold setAtM stV
        dsimp only
        rw [List.length_map]
        cases hj : ixN ds.length k with
        | none => rfl
        | some j =>
          have hlt := ixN_lt hj
          dsimp only
          rw [List.getElem?_map, List.getElem?_eq_getElem hlt]
          show _ = Res.ok (Fl.nx, τ.set i (some (wl (ds.set j d))))
          unfold wl
          rw [List.map_set]
          rfl
theorem stX_v (i : Nat) (k d : D) (τ : T) (xs : List D) : stX i k d τ (some (wl xs)) = (stV xs k d).bind fun ys => .ok (.nx, τ.set i (some (wl ys))) := by
  unfold stX wl
  dsimp only
  rw [allFz_map]
/-! op= -/
def intD : D → Res Int
  | .int i => .ok i
  | _ => .bad
def getIV (xs : List D) (k : D) : Res Int := match k with
  | .int k => match atI xs k with
    | some (.int i) => .ok i
    | _ => .bad
  | _ => .bad
def augNb (io : List Nat) (i : Nat) (op : Int → Int → Int) (a : Int) (τ : T) : Option OV → Res (Fl × T)
  | some (.fz b) => (intD b).bind fun b => (putS io i (.fz (.int (op a b))) τ).bind nxK
  | _ => .bad
def augNa (io : List Nat) (i : Nat) (op : Int → Int → Int) (a : Int) : Pre × T → Res (Fl × T) := fun x => augNb io i op a x.2 (vw x.2 (opd x.1))
def augNc (io : List Nat) (i : Nat) (g : FP) (op : Int → Int → Int) (τ : T) : Option OV → Res (Fl × T)
  | some (.fz a) => (intD a).bind fun a => (g τ).bind (augNa io i op a)
  | _ => .bad
theorem augN_v (io : List Nat) (i : Nat) (g : FP) (op : Int → Int → Int) (τ : T) : augN io i g op τ = augNc io i g op τ (slotAt τ i) := by
  unfold augN augNc
  cases slotAt τ i with
  | none => rfl
  | some o =>
    cases o with
    | ls _ => rfl
    | fz d =>
      cases d <;> first | rfl | skip
      rename_i a
      show (g τ).bind _ = (g τ).bind _
      congr 1
      funext ⟨p, τ1⟩
      unfold augNa augNb
      dsimp only
      cases vw τ1 (opd p) with
      | none => rfl
      | some o =>
        cases o with
        | ls _ => rfl
        | fz d => cases d <;> rfl
theorem augNc_v (io : List Nat) (i : Nat) (g : FP) (op : Int → Int → Int) (τ : T) (a : D) : augNc io i g op τ (some (.fz a)) = (intD a).bind fun a => (g τ).bind (augNa io i op a) := (rfl)
theorem augNa_v (io : List Nat) (i : Nat) (op : Int → Int → Int) (a : Int) (p : Pre) (τ : T) : augNa io i op a (p, τ) = augNb io i op a τ (vw τ (opd p)) := (rfl)
theorem augNb_v (io : List Nat) (i : Nat) (op : Int → Int → Int) (a : Int) (τ : T) (b : D) : augNb io i op a τ (some (.fz b)) = (intD b).bind fun b => (putS io i (.fz (.int (op a b))) τ).bind nxK := (rfl)
/-! xs[k] op= e -/
def agC (op : Int → Int → Int) (i : Nat) (k : D) (a b : Int) (τ : T) : Option OV → Res (Fl × T)
  | some o => stX i k (.int (op a b)) τ (some o)
  | none => .bad
def agB (op : Int → Int → Int) (i : Nat) (k : D) (a : Int) (τ : T) : Option OV → Res (Fl × T)
  | some (.fz b) => (intD b).bind fun b => agC op i k a b τ (slotAt τ i)
  | _ => .bad
def agP (op : Int → Int → Int) (i : Nat) (k : D) (a : Int) : Pre × T → Res (Fl × T) := fun x => agB op i k a x.2 (vw x.2 (opd x.1))
def agA (g : FP) (op : Int → Int → Int) (i : Nat) (k : D) (τ : T) : Option OV → Res (Fl × T)
  | some (.ls xs) => match allFz xs with
    | some ds => (getIV ds k).bind fun a => (g τ).bind (agP op i k a)
    | none => augO g op i τ (intOf (some (.fz k))) (augKey i τ (intOf (some (.fz k))))
  | _ => augO g op i τ (intOf (some (.fz k))) (augKey i τ (intOf (some (.fz k))))
def agW (g : FP) (op : Int → Int → Int) (i : Nat) (τ : T) : Option OV → Res (Fl × T)
  | some (.fz k) => agA g op i k τ (slotAt τ i)
  | o => augO g op i τ (intOf o) (augKey i τ (intOf o))
theorem augL2_v (g : FP) (op : Int → Int → Int) (i : Nat) (r : Pre) (τ : T) : augL2 g op i (r, τ) = agW g op i τ (vw τ (opd r)) := by
  show augO g op i τ (intOf (vw τ (opd r))) (augKey i τ (intOf (vw τ (opd r)))) = _
  unfold agW
  cases vw τ (opd r) with
  | none => rfl
  | some o =>
    cases o with
    | ls _ => rfl
    | fz k =>
      dsimp only
      unfold agA
      cases e : slotAt τ i with
      | none => rfl
      | some o =>
        cases o with
        | fz _ => rfl
        | ls xs =>
          dsimp only
          cases ha : allFz xs with
          | none => rfl
          | some ds =>
            dsimp only
            have hx := allFz_eq ha
            subst hx
            cases k <;> first | rfl | skip
            rename_i k
            show augO g op i τ (some k) (intAt i k τ) = _
            unfold intAt getIV
            rw [e]
            dsimp only
            have hat : atI (ds.map OV.fz) k = (atI ds k).map OV.fz := by
              unfold atI
              rw [List.length_map]
              cases ixN ds.length k <;> simp
            rw [hat]
            cases ek : atI ds k with
            | none => rfl
            | some d =>
              cases d <;> first | rfl | skip
              rename_i a
              show (g τ).bind _ = (g τ).bind _
              congr 1
              funext ⟨p, τ1⟩
              unfold augL3 agP agB
              dsimp only
              cases vw τ1 (opd p) with
              | none => rfl
              | some o =>
                cases o with
                | ls _ => rfl
                | fz d =>
                  cases d <;> first | rfl | skip
                  rename_i b
                  show (setAt i k (.int (op a b)) τ1).bind nxK = agC op i (.int k) a b τ1 (slotAt τ1 i)
                  have h2 : stX i (.int k) (.int (op a b)) τ1 (slotAt τ1 i) = (setAt i k (.int (op a b)) τ1).bind nxK := (stW_v i (.int k) (.int (op a b)) τ1).symm
                  rw [← h2]
                  unfold agC
                  cases e1 : slotAt τ1 i with
                  | none =>
                    rw [e1] at h2
                    rw [h2, setAt_e, e1]
                    rfl
                  | some o => rfl
theorem agW_v (g : FP) (op : Int → Int → Int) (i : Nat) (τ : T) (k : D) : agW g op i τ (some (.fz k)) = agA g op i k τ (slotAt τ i) := (rfl)
theorem agA_v (g : FP) (op : Int → Int → Int) (i : Nat) (k : D) (τ : T) (xs : List D) : agA g op i k τ (some (wl xs)) = (getIV xs k).bind fun a => (g τ).bind (agP op i k a) := by
  unfold agA wl
  dsimp only
  rw [allFz_map]
theorem agP_v (op : Int → Int → Int) (i : Nat) (k : D) (a : Int) (p : Pre) (τ : T) : agP op i k a (p, τ) = agB op i k a τ (vw τ (opd p)) := (rfl)
theorem agB_v (op : Int → Int → Int) (i : Nat) (k : D) (a : Int) (τ : T) (b : D) : agB op i k a τ (some (.fz b)) = (intD b).bind fun b => agC op i k a b τ (slotAt τ i) := (rfl)
theorem agC_v (op : Int → Int → Int) (i : Nat) (k : D) (a b : Int) (τ : T) (o : OV) : agC op i k a b τ (some o) = stX i k (.int (op a b)) τ (some o) := (rfl)
/-! tests -/
def andK (g : FP) : Bool × T → Res (Bool × T) := fun x => if x.1 = true then tru g x.2 else .ok (false, x.2)
def orK (g : FP) : Bool × T → Res (Bool × T) := fun x => if x.1 = true then .ok (true, x.2) else tru g x.2
def notTK : Bool × T → Res (Bool × T) := fun x => .ok (!x.1, x.2)
theorem tru_and (f g : FP) (τ : T) : tru (boF false f g) τ = (tru f τ).bind (andK g) := by
  rw [tru_e, boF_e, tru_e, bind_as, bind_as]
  congr 1
  funext ⟨p, τ1⟩
  rw [boK_e, truK_e]
  cases h : vw τ1 (opd p) with
  | none => rfl
  | some o =>
    rw [boM_e, truM_e, bind_as, bind_as]
    cases ht : truthOf o with
    | bad => rfl
    | ok b =>
      rw [okb, okb, blK_e, okb]
      cases b with
      | false =>
        rw [boN_ff, okb, truK_e, opd_opd, h, truM_e, ht]
        rfl
      | true => rw [boN_ft]; rfl
theorem tru_or (f g : FP) (τ : T) : tru (boF true f g) τ = (tru f τ).bind (orK g) := by
  rw [tru_e, boF_e, tru_e, bind_as, bind_as]
  congr 1
  funext ⟨p, τ1⟩
  rw [boK_e, truK_e]
  cases h : vw τ1 (opd p) with
  | none => rfl
  | some o =>
    rw [boM_e, truM_e, bind_as, bind_as]
    cases ht : truthOf o with
    | bad => rfl
    | ok b =>
      rw [okb, okb, blK_e, okb]
      cases b with
      | true =>
        rw [boN_tt, okb, truK_e, opd_opd, h, truM_e, ht]
        rfl
      | false => rw [boN_tf]; rfl
theorem tru_not (f : FP) (τ : T) : tru (notF f) τ = (tru f τ).bind notTK := by
  rw [tru_e, notF_e, bind_as]
  congr 1
theorem andK_e (g : FP) (b : Bool) (τ : T) : andK g (b, τ) = if b = true then tru g τ else .ok (false, τ) := (rfl)
theorem orK_e (g : FP) (b : Bool) (τ : T) : orK g (b, τ) = if b = true then .ok (true, τ) else tru g τ := (rfl)
theorem notTK_e (b : Bool) (τ : T) : notTK (b, τ) = .ok (!b, τ) := (rfl)
theorem ifK_v (g h : FS) (b : Bool) (τ : T) : ifK g h (b, τ) = if b = true then g τ else h τ := (rfl)
theorem iteK_v (f g : FP) (b : Bool) (τ : T) : iteK f g (b, τ) = if b = true then f τ else g τ := (rfl)
theorem boN_a (g : FP) (p : Pre) (τ : T) (b : Bool) : boN false g p τ b = if b = true then g τ else .ok (p, τ) := by cases b <;> rfl
theorem boN_o (g : FP) (p : Pre) (τ : T) (b : Bool) : boN true g p τ b = if b = true then .ok (p, τ) else g τ := by cases b <;> rfl
theorem chnO_v (h : FP) (k2 : OV → OV → Res OV) (q : Pre) (τ : T) (b : Bool) : chnO h k2 q τ (.fz (.bl b)) = if b = true then (h τ).bind (chnP k2 q) else .ok (.val (.fz (.bl false)), τ) := by cases b <;> rfl
/-! wipes -/
def wipeSK (is : List Nat) : Fl × T → Res (Fl × T) := fun x => .ok (x.1, wipeT x.2 is)
theorem wipeS_e (is : List Nat) (g : FS) (τ : T) : wipeS is g τ = (g τ).bind (wipeSK is) := (rfl)
theorem wipeSK_e (is : List Nat) (fl : Fl) (τ : T) : wipeSK is (fl, τ) = .ok (fl, wipeT τ is) := (rfl)
theorem preS_e (is : List Nat) (g : FS) (τ : T) : preS is g τ = g (wipeT τ is) := (rfl)
def frzK : Pre × T → Res (Pre × T) := fun x => .ok (opd x.1, x.2)
theorem frzF_e (f : FP) (τ : T) : frzF f τ = (f τ).bind frzK := (rfl)
theorem frzK_e (p : Pre) (τ : T) : frzK (p, τ) = .ok (opd p, τ) := (rfl)
theorem wipK_e (vs : List Nat) (o : Option OV) (τ : T) : wipK vs (o, τ) = .ok (o, wipeT τ vs) := (rfl)
theorem wipe_v (τ : T) (v : Nat) (vs : List Nat) : wipeT τ (v :: vs) = (wipeT τ vs).set v none := (rfl)
/-! turns of a comprehension -/
def turn4 : OV × T → Res (Option OV × T) := fun r => .ok (some r.1, r.2)
def turn3 (io : List Nat) (own : Bool) : Pre × T → Res (Option OV × T) := fun p => (take io own p.1 p.2).bind turn4
def turn2 (io : List Nat) (own : Bool) (f : FP) : Bool × T → Res (Option OV × T) := fun b => if b.1 = true then (f b.2).bind (turn3 io own) else .ok (none, b.2)
def turn1 (io : List Nat) (own : Bool) (c : T → Res (Bool × T)) (f : FP) : T → Res (Option OV × T) := fun τ => (c τ).bind (turn2 io own f)
theorem turnC_e (io vs : List Nat) (own : Bool) (g : FG) (c : T → Res (Bool × T)) (f : FP) (d : D) (τ : T) : turnC io vs own g c f d τ = ((g d τ).bind (turn1 io own c f)).bind (wipK vs) := (rfl)
theorem turn1_e (io : List Nat) (own : Bool) (c : T → Res (Bool × T)) (f : FP) (τ : T) : turn1 io own c f τ = (c τ).bind (turn2 io own f) := (rfl)
theorem turn2_e (io : List Nat) (own : Bool) (f : FP) (b : Bool) (τ : T) : turn2 io own f (b, τ) = if b = true then (f τ).bind (turn3 io own) else .ok (none, τ) := (rfl)
theorem turn3_e (io : List Nat) (own : Bool) (p : Pre) (τ : T) : turn3 io own (p, τ) = (take io own p τ).bind turn4 := (rfl)
theorem turn4_e (r : OV) (τ : T) : turn4 (r, τ) = .ok (some r, τ) := (rfl)
/-! what is walked -/
def itemsV (d : D) : Res (List D) := Res.of (itemsOf d)
theorem itL_v (d : D) (τ : T) : itL (d, τ) = (itemsV d).bind fun ds => .ok (ds, τ) := by
  show itM τ (itemsOf d) = _
  unfold itemsV
  cases itemsOf d <;> rfl
def datV (k : List D → List D) (d : D) : Res (List D) := match d with
  | .lst ds => .ok (k ds)
  | .tup ds => .ok (k ds)
  | _ => .bad
theorem dat_v (k : List D → List D) (d : D) : datL k [.fz d] = datV k d := by cases d <;> rfl
def zipV (a b : D) : Res (List D) := zip2S [.fz a, .fz b]
theorem zip_v (a b : D) : zip2S [.fz a, .fz b] = zipV a b := (rfl)
def rng1V (a : D) : Res (List D) := range1S [.fz a]
def rng2V (a b : D) : Res (List D) := range2S [.fz a, .fz b]
def rng3V (a b c : D) : Res (List D) := range3S [.fz a, .fz b, .fz c]
theorem rng1_v (a : D) : range1S [.fz a] = rng1V a := (rfl)
theorem rng2_v (a b : D) : range2S [.fz a, .fz b] = rng2V a b := (rfl)
theorem rng3_v (a b c : D) : range3S [.fz a, .fz b, .fz c] = rng3V a b c := (rfl)
def un2 : D → Res (D × D)
  | .tup [a, b] => .ok (a, b)
  | _ => .bad
def un3 : D → Res (D × D × D)
  | .tup [a, b, c] => .ok (a, b, c)
  | _ => .bad
def un4 : D → Res (D × D × D × D)
  | .tup [a, b, c, e] => .ok (a, b, c, e)
  | _ => .bad
def g2K (g : FG) (b : D) : T → Res T := g b
theorem tup2_v (g h : FG) (d : D) (τ : T) : tupG 2 (consG g (consG h nilG)) d τ = (un2 d).bind fun x => (g x.1 τ).bind (h x.2) := by
  unfold tupG un2
  cases d <;> first | rfl | skip
  rename_i ds
  dsimp only
  match ds with
  | [] => rfl
  | [a] => rfl
  | [a, b] =>
    show (g a τ).bind (fun τ1 => (h b τ1).bind fun τ2 => .ok τ2) = (g a τ).bind (h b)
    congr 1
    funext τ1
    exact bind_id _
  | a :: b :: c :: r => simp [Res.bind]
theorem tup3_v (g h k : FG) (d : D) (τ : T) : tupG 3 (consG g (consG h (consG k nilG))) d τ = (un3 d).bind fun x => (g x.1 τ).bind fun τ1 => (h x.2.1 τ1).bind (k x.2.2) := by
  unfold tupG un3
  cases d <;> first | rfl | skip
  rename_i ds
  dsimp only
  match ds with
  | [] => rfl
  | [a] => rfl
  | [a, b] => rfl
  | [a, b, c] =>
    show (g a τ).bind (fun τ1 => (h b τ1).bind fun τ2 => (k c τ2).bind fun τ3 => .ok τ3) = (g a τ).bind fun τ1 => (h b τ1).bind (k c)
    congr 1
    funext τ1
    congr 1
    funext τ2
    exact bind_id _
  | a :: b :: c :: e :: r => simp [Res.bind]
theorem tup4_v (g h k l : FG) (d : D) (τ : T) : tupG 4 (consG g (consG h (consG k (consG l nilG)))) d τ = (un4 d).bind fun x => (g x.1 τ).bind fun τ1 => (h x.2.1 τ1).bind fun τ2 => (k x.2.2.1 τ2).bind (l x.2.2.2) := by
  unfold tupG un4
  cases d <;> first | rfl | skip
  rename_i ds
  dsimp only
  match ds with
  | [] => rfl
  | [a] => rfl
  | [a, b] => rfl
  | [a, b, c] => rfl
  | [a, b, c, e] =>
    show (g a τ).bind (fun τ1 => (h b τ1).bind fun τ2 => (k c τ2).bind fun τ3 => (l e τ3).bind fun τ4 => .ok τ4) = (g a τ).bind fun τ1 => (h b τ1).bind fun τ2 => (k c τ2).bind (l e)
    congr 1
    funext τ1
    congr 1
    funext τ2
    congr 1
    funext τ3
    exact bind_id _
  | a :: b :: c :: e :: f :: r => simp [Res.bind]
/-! sorted, slices, isinstance -/
theorem sort_v (d : D) : sortS [.fz d] = (sortV d).bind fun ds => .ok (wl ds) := by
  unfold sortV sortS
  dsimp only
  cases listOf (.fz d) with
  | none => rfl
  | some ds =>
    dsimp only
    generalize (decide (ds.length ≤ sizeLine) && _) = c
    cases c with
    | false => rfl
    | true =>
      show Res.ok _ = (Res.ok (OV.ers ((sortD ds).map OV.fz))).bind _
      rw [OV.ers_fz]
      rfl
theorem sort_wl (ds : List D) : sortS [wl ds] = (sortV (.lst ds)).bind fun ds => .ok (wl ds) := by
  rw [← sort_v]
  unfold sortS wl
  dsimp only
  rw [listOf_ls, listOf_lst]
def sliV (d : D) (lo hi : Option Int) : Res D := (sliceS (.fz d) lo hi).bind fun o => .ok o.er
theorem sli_v (d : D) (lo hi : Option Int) : sliceS (.fz d) lo hi = (sliV d lo hi).bind fun r => .ok (wr r) := by
  unfold sliV
  cases d <;> first | rfl | skip
  · rename_i x
    show gd _ _ = ((gd _ _).bind _).bind _
    rw [gd_bind]
    cases decide (x.length ≤ sizeLine) <;> rfl
  · rename_i ds
    show Res.ok (OV.ls ((cutD ds lo hi).map OV.fz)) = .ok (wr (OV.ls ((cutD ds lo hi).map OV.fz)).er)
    rw [wl_eq, wl_er]
    rfl
theorem sli_wl (ds : List D) (lo hi : Option Int) : sliceS (wl ds) lo hi = .ok (wl (cutD ds lo hi)) := by
  unfold sliceS wl
  dsimp only
  rw [listOf_ls]
def isiV (n : String) (d : D) : Res Bool := match isiS n (.fz d) with
  | .ok (.fz (.bl b)) => .ok b
  | _ => .bad
theorem isi_v (n : String) (d : D) : isiS n (.fz d) = (isiV n d).bind fun b => .ok (.fz (.bl b)) := by
  unfold isiV
  cases h : isiS n (.fz d) with
  | bad => rfl
  | ok o =>
    unfold isiS at h
    split at h
    · cases h; rfl
    · cases h
def intOV : Option OV → Res Int
  | some (.fz d) => intD d
  | _ => .bad
theorem someM_v (τ : T) (d : D) : someM τ (some (.fz d)) = (intD d).bind fun i => .ok (some i, τ) := by cases d <;> rfl
def negV (d : D) : Res D := (intD d).bind fun i => .ok (.int (-i))
theorem negM_v (τ : T) (d : D) : negM τ (some (.fz d)) = (negV d).bind fun d => .ok (.val (.fz d), τ) := by cases d <;> rfl
/-! own lists as operands -/
def catV (xs : List D) (d : D) : Res (List D) := match d with
  | .lst ys => gd (decide (xs.length + ys.length ≤ sizeLine)) (xs ++ ys)
  | _ => .bad
theorem cat_v (xs : List D) (d : D) : addS (wl xs) (.fz d) = (catV xs d).bind fun ds => .ok (wl ds) := by
  show catS (wl xs) (.fz d) = _
  unfold catS wl
  rw [listOf_ls]
  cases d <;> first | rfl | skip
  rename_i ys
  dsimp only [listOf, catV]
  rw [gd_bind]
  rfl
theorem cat_fl (d : D) (ys : List D) : addS (.fz d) (wl ys) = (match d with | .lst xs => (catV xs (.lst ys)).bind fun ds => .ok (wl ds) | _ => .bad) := by
  cases d <;> first | rfl | skip
  rename_i xs
  show catS (.fz (.lst xs)) (wl ys) = _
  unfold catS wl
  rw [listOf_ls, listOf_lst]
  dsimp only [catV]
  rw [gd_bind]
  rfl
theorem cat_wl (xs ys : List D) : addS (wl xs) (wl ys) = (catV xs (.lst ys)).bind fun ds => .ok (wl ds) := by
  show catS (wl xs) (wl ys) = _
  unfold catS wl
  rw [listOf_ls, listOf_ls]
  dsimp only [catV]
  rw [gd_bind]
  rfl
def repV (xs : List D) (d : D) : Res (List D) := match d with
  | .int k => gd (decide (-(2 ^ 63) ≤ k ∧ k < 2 ^ 63 ∧ xs.length * k.toNat ≤ sizeLine)) (List.replicate k.toNat xs).flatten
  | _ => .bad
theorem rep_v (xs : List D) (d : D) : mulS (wl xs) (.fz d) = (repV xs d).bind fun ds => .ok (wl ds) := by
  cases d <;> first | rfl | skip
  rename_i k
  show repS (wl xs) k = _
  unfold repS wl
  rw [listOf_ls]
  dsimp only [repV]
  rw [gd_bind]
  rfl
theorem all_wl (a : Bool) (ds : List D) : allS a [wl ds] = (allV a (.lst ds)).bind fun b => .ok (.fz (.bl b)) := by
  rw [← all_v]
  unfold allS wl
  dsimp only
  rw [listOf_ls, listOf_lst]
theorem sum_wl (ds : List D) : sumS [wl ds] = (sumV (.lst ds)).bind fun d => .ok (.fz d) := by
  rw [← sum_v]
  unfold sumS wl
  dsimp only
  rw [listOf_ls, listOf_lst]
theorem lst_wl (ds : List D) : lstS [wl ds] = .ok (wl ds) := by
  unfold lstS wl seqOf
  dsimp only
  rw [listOf_ls]
end Pf
namespace Pf
theorem sz0 : decide (0 ≤ PySem.sizeLine) = true := by decide
theorem sz1 : decide (1 ≤ PySem.sizeLine) = true := by decide
theorem sz2 : decide (2 ≤ PySem.sizeLine) = true := by decide
theorem sz3 : decide (3 ≤ PySem.sizeLine) = true := by decide
theorem sz4 : decide (4 ≤ PySem.sizeLine) = true := by decide
theorem sz5 : decide (5 ≤ PySem.sizeLine) = true := by decide
theorem sz6 : decide (6 ≤ PySem.sizeLine) = true := by decide
theorem sz7 : decide (7 ≤ PySem.sizeLine) = true := by decide
theorem sz8 : decide (8 ≤ PySem.sizeLine) = true := by decide
end Pf
namespace Pf
open PySem PySem.Spec PyProof.Rows L2
theorem tru_two (f g : FP) (k : OV → OV → Res OV) (τ : T) : tru (two f g k) τ = (two f g k τ).bind truK := (rfl)
theorem tru_slot (i : Nat) (τ : T) : tru (eSlot i) τ = (eSlot i τ).bind truK := (rfl)
theorem tru_lit (d : D) (τ : T) : tru (eLit d) τ = (eLit d τ).bind truK := (rfl)
theorem tru_bi (h : FA) (k : List OV → Res OV) (τ : T) : tru (biF h k) τ = (biF h k τ).bind truK := (rfl)
theorem tru_one (f : FP) (k : OV → Res OV) (τ : T) : tru (oneF f k) τ = (oneF f k τ).bind truK := (rfl)
theorem tru_chn (f g h : FP) (k1 k2 : OV → OV → Res OV) (τ : T) : tru (chnF f g h k1 k2) τ = (chnF f g h k1 k2 τ).bind truK := (rfl)
theorem tru_call (n : Nat) (l : List Nat) (fn : FV) (h : FA) (τ : T) : tru (callF n l fn h) τ = (callF n l fn h τ).bind truK := (rfl)
theorem tru_ite (c f g : FP) (τ : T) : tru (iteF c f g) τ = (iteF c f g τ).bind truK := (rfl)
theorem tru_comp (io vs : List Nat) (own : Bool) (h : FI) (g : FG) (c : T → Res (Bool × T)) (f : FP) (τ : T) : tru (compF io vs own h g c f) τ = (compF io vs own h g c f τ).bind truK := (rfl)
theorem tru_mth (i : Nat) (h : FA) (k : List OV → List D → Res (D × List OV)) (τ : T) : tru (mthF i h k) τ = (mthF i h k τ).bind truK := (rfl)
end Pf

/-! V3: what is handed back as data; wipes behind a source; own lists walked; lists of lists; stars. -/
namespace Pf
open PySem PySem.Spec PyProof.Rows L2
section
variable {X : Cx} {io : List Nat} {pos : Pos} {e : Expr} {f : FP}
/-- what is handed back, as data -/
def retZ (io : List Nat) (f : FP) : FS := fun τ => (f τ).bind fun (p, τ1) => (settle io p τ1).bind fun (d, τ2) => .ok (.rt (.fz d), τ2)
theorem xs_retZ (ha : XP X io e f) : XS X io (.Return (some e) pos) (retZ io f) := by
  refine ps_weak (ps_ret ha) fun D σ H ⟨C, F, fp, τ, fl, τ', hio, R, e, q⟩ => ?_
  obtain ⟨⟨p, τ1⟩, e1, e⟩ := Res.bind_ok e
  obtain ⟨⟨r, τ2⟩, e2, e⟩ := Res.bind_ok e
  cases e
  refine ⟨C, F, fp, τ, p, τ1, hio, R, e1, fun F1 fp1 H1 v R1 s1 w1 => ?_⟩
  obtain ⟨F2, fp2, R2, s2, t⟩ := R1.settle hio w1 e2
  exact q F2 fp2 σ H1 R2 (s1.trans s2) v [] ⟨Own.of_rep t, fun _ z => (nomatch z), fun _ z => (nomatch z), fun _ z => (nomatch z)⟩
def retZL : D × T → Res (Fl × T) := fun x => .ok (.rt (.fz x.1), x.2)
def retZK (io : List Nat) : Pre × T → Res (Fl × T) := fun x => (settle io x.1 x.2).bind retZL
theorem retZ_e (io : List Nat) (f : FP) (τ : T) : retZ io f τ = (f τ).bind (retZK io) := (rfl)
theorem retZK_e (io : List Nat) (p : Pre) (τ : T) : retZK io (p, τ) = (settle io p τ).bind retZL := (rfl)
theorem retZL_e (d : D) (τ : T) : retZL (d, τ) = .ok (.rt (.fz d), τ) := (rfl)
/-- a source, behind it some slots are no longer wanted -/
def wipI (is : List Nat) (h : FI) : FI := fun τ => (h τ).bind fun (ds, τ1) => .ok (ds, wipeT τ1 is)
theorem xi_wipe (is : List Nat) {tg : Expr} {h : FI} (hi : XI X io tg e h) : XI X io tg e (wipI is h) := pi_weak hi fun σ H R ⟨C, F, fp, τ, ds, τ', hio, R0, e, q⟩ => by
  unfold wipI at e
  obtain ⟨⟨ds1, τ1⟩, e1, e⟩ := Res.bind_ok e
  cases e
  exact ⟨C, F, fp, τ, ds, τ1, hio, R0, e1, fun F' fp' H' J R1 s1 t => q F' fp' H' J (R1.drop is) s1 t⟩
def wipIK (is : List Nat) : List D × T → Res (List D × T) := fun x => .ok (x.1, wipeT x.2 is)
theorem wipI_e (is : List Nat) (h : FI) (τ : T) : wipI is h τ = (h τ).bind (wipIK is) := (rfl)
theorem wipIK_e (is : List Nat) (ds : List D) (τ : T) : wipIK is (ds, τ) = .ok (ds, wipeT τ is) := (rfl)
end
/-! own lists walked where they stand -/
theorem forOL_eq {S R : Type} {i : Nat} {o : OV} {g : FG} {b : FS} {t : S → T} (hs : ∀ s, slotAt (t s) i = some o) {f : D → S → Res (FlV S R)} {u : R → OV × T}
    (h : ∀ d s, (g d (t s)).bind b = (f d s).bind fun o => .ok (match o with | .nx s' => (.nx, t s') | .bk s' => (.bk, t s') | .rt r => (.rt (u r).1, (u r).2))) :
    ∀ ds s, forOL i o g b ds (t s) = (forV f ds s).bind (onV (fun s' => .ok (.nx, t s')) fun r => .ok (.rt (u r).1, (u r).2))
  | [], s => by
    rw [forOL, forV, okb, onV_nx]
    exact if_pos (hs s)
  | d :: ds, s => by
    rw [forOL, forV]
    refine (if_pos (hs s)).trans ?_
    have e : ∀ k : Fl × T → Res (Fl × T), (g d (t s)).bind (fun τ1 => (b τ1).bind k) = ((g d (t s)).bind b).bind k := fun k => by rw [bind_as]
    rw [e, h, bind_as, bind_as]
    congr 1
    funext o
    cases o with
    | nx s' => exact forOL_eq hs h ds s'
    | bk s' => rfl
    | rt r => rfl
theorem forOL_eq0 {S : Type} {i : Nat} {o : OV} {g : FG} {b : FS} {t : S → T} (hs : ∀ s, slotAt (t s) i = some o) {f : D → S → Res S}
    (h : ∀ d s, (g d (t s)).bind b = (f d s).bind fun s' => .ok (.nx, t s')) : ∀ ds s, forOL i o g b ds (t s) = (foldV f ds s).bind fun s' => .ok (.nx, t s')
  | [], s => by
    rw [forOL, foldV, okb]
    exact if_pos (hs s)
  | d :: ds, s => by
    rw [forOL, foldV]
    refine (if_pos (hs s)).trans ?_
    have e : ∀ k : Fl × T → Res (Fl × T), (g d (t s)).bind (fun τ1 => (b τ1).bind k) = ((g d (t s)).bind b).bind k := fun k => by rw [bind_as]
    rw [e, h, bind_as, bind_as]
    congr 1
    funext s'
    exact forOL_eq0 hs h ds s'
theorem forO_wl {i : Nat} {g : FG} {b : FS} {τ : T} {ds : List D} (h : slotAt τ i = some (wl ds)) : forO i g b τ = forOL i (wl ds) g b ds τ := by
  unfold forO
  rw [h]
  unfold wl
  dsimp only
  rw [allFz_map]
theorem forO_fold {S : Type} {i : Nat} {g : FG} {b : FS} {t : S → T} {ds : List D} {f : D → S → Res S} (hs : ∀ s, slotAt (t s) i = some (wl ds)) (h : ∀ d s, (g d (t s)).bind b = (f d s).bind fun s' => .ok (.nx, t s')) (s : S) :
    forO i g b (t s) = (foldV f ds s).bind fun s' => .ok (.nx, t s') := by
  rw [forO_wl (hs s)]
  exact forOL_eq0 hs h ds s
theorem forO_for {S R : Type} {i : Nat} {g : FG} {b : FS} {t : S → T} {u : R → OV × T} {ds : List D} {f : D → S → Res (FlV S R)} (hs : ∀ s, slotAt (t s) i = some (wl ds))
    (h : ∀ d s, (g d (t s)).bind b = (f d s).bind fun o => .ok (match o with | .nx s' => (.nx, t s') | .bk s' => (.bk, t s') | .rt r => (.rt (u r).1, (u r).2))) (s : S) :
    forO i g b (t s) = (forV f ds s).bind (onV (fun s' => .ok (.nx, t s')) fun r => .ok (.rt (u r).1, (u r).2)) := by
  rw [forO_wl (hs s)]
  exact forOL_eq hs h ds s
theorem compOL_cons (i : Nat) (o : OV) (io vs : List Nat) (own : Bool) (g : FG) (c : T → Res (Bool × T)) (f : FP) (d : D) (ds : List D) (acc : List OV) (τ : T) (hs : slotAt τ i = some o) : compOL i o io vs own g c f (d :: ds) acc τ = (turnX io own g c f d (wipeT τ vs)).bind fun x =>
    match x.1 with
    | some r => if acc.length < sizeLine then compOL i o io vs own g c f ds (acc ++ [r]) x.2 else .bad
    | none => compOL i o io vs own g c f ds acc x.2 := by
  rw [compOL, if_pos hs]
  unfold turnX
  rw [bind_as]
  congr 1
  funext τ1
  rw [bind_as]
  congr 1
  funext ⟨b, τ2⟩
  cases b with
  | false => rfl
  | true =>
    dsimp only
    rw [if_pos rfl, if_pos rfl, bind_as]
    congr 1
    funext ⟨p, τ3⟩
    dsimp only
    rw [bind_as]
    rfl
theorem compOL_map {i : Nat} {o : OV} {io vs : List Nat} {own : Bool} {g : FG} {c : T → Res (Bool × T)} {f : FP} {τ0 : T} {fv : D → Res (Option D)} (hi : i ∉ vs) (hs : slotAt τ0 i = some o) (h : ∀ d, turnC io vs own g c f d τ0 = (fv d).bind fun o => .ok (o.map OV.fz, τ0)) :
    ∀ ds acc τ, wipeT τ vs = τ0 → (compOL i o io vs own g c f ds acc τ).bind (fun x => .ok (x.1, wipeT x.2 vs)) = (mapW fv ds).bind fun l => if acc.length + l.length ≤ sizeLine ∨ l = [] then .ok (acc ++ l.map OV.fz, τ0) else .bad
  | [], acc, τ, e => by
    have h1 : slotAt τ i = some o := by rw [← hs, ← e, wipeT_at, if_neg hi]
    rw [compOL, mapW, if_pos h1, okb, okb, e]
    simp
  | d :: ds, acc, τ, e => by
    have h0 : slotAt τ i = some o := by rw [← hs, ← e, wipeT_at, if_neg hi]
    have h1 := h d
    unfold turnC at h1
    rw [compOL_cons _ _ _ _ _ _ _ _ _ _ _ _ h0, mapW, e]
    cases hx : turnX io own g c f d τ0 with
    | bad =>
      rw [hx] at h1
      cases hf : fv d with
      | bad => rfl
      | ok o => rw [hf] at h1; cases h1
    | ok x =>
      obtain ⟨r, τ2⟩ := x
      rw [hx] at h1
      cases hf : fv d with
      | bad => rw [hf] at h1; cases h1
      | ok q =>
        rw [hf] at h1
        have h2 : (r, wipeT τ2 vs) = (q.map OV.fz, τ0) := Res.ok.inj h1
        obtain ⟨h3, h4⟩ := Prod.mk.inj h2
        cases q with
        | none =>
          subst h3
          show (compOL i o io vs own g c f ds acc τ2).bind _ = ((mapW fv ds).bind _).bind _
          rw [compOL_map hi hs h ds acc τ2 h4, bind_as]
          rfl
        | some q =>
          subst h3
          show (if acc.length < sizeLine then compOL i o io vs own g c f ds (acc ++ [.fz q]) τ2 else Res.bad).bind _ = ((mapW fv ds).bind _).bind _
          rw [bind_as]
          by_cases hl : acc.length < sizeLine
          · rw [if_pos hl, compOL_map hi hs h ds (acc ++ [OV.fz q]) τ2 h4]
            congr 1
            funext l
            rw [okb]
            simp only [List.length_append, List.length_cons, List.length_nil, List.map_cons, List.append_assoc, List.singleton_append]
            by_cases hq : l = []
            · simp only [hq, List.length_nil, List.map_nil]
              rw [if_pos (.inr trivial), if_pos (.inl (by omega))]
            · have e3 : acc.length + (0 + 1) + l.length = acc.length + (l.length + 1) := by omega
              simp only [e3, hq, or_false, reduceCtorEq]
          · rw [if_neg hl]
            cases hm : mapW fv ds with
            | bad => rfl
            | ok l =>
              rw [okb, okb, badb, if_neg]
              simp
              omega
theorem comp_o {io vs : List Nat} {i : Nat} {g : FG} {c : T → Res (Bool × T)} {f : FP} {fv : D → Res (Option D)} {xs : List D} (τ0 τ : T) (e : wipeT τ vs = τ0) (hx : slotAt τ i = some (wl xs)) (hv : decide (i ∈ vs) = false) (hz : (vs.all (noOwn τ) && vs.all (fun j => decide (j ∉ i :: io))) = true)
    (h : ∀ d, turnC (i :: io) vs false g c f d τ0 = (fv d).bind fun o => .ok (o.map OV.fz, τ0)) :
    compO io vs false i g c f τ = (mapV fv xs).bind fun l => .ok (.val (wl l), backT τ0 τ vs) := by
  have hi := of_decide_eq_false hv
  unfold compO
  rw [hx]
  unfold wl
  dsimp only
  rw [allFz_map]
  dsimp only
  rw [if_pos hz]
  have hs : slotAt τ0 i = some (.ls (xs.map OV.fz)) := by rw [← e, wipeT_at, if_neg hi]; exact hx
  have h1 := compOL_map (own := false) hi hs h xs [] τ e
  have h2 : ((compOL i (.ls (xs.map OV.fz)) (i :: io) vs false g c f xs [] τ).bind fun (acc, τ2) => Res.ok (Pre.val (.ls acc), backT (wipeT τ2 vs) τ vs)) = ((compOL i (.ls (xs.map OV.fz)) (i :: io) vs false g c f xs [] τ).bind (fun x => .ok (x.1, wipeT x.2 vs))).bind fun y => .ok (.val (.ls y.1), backT y.2 τ vs) := by
    rw [bind_as]; rfl
  rw [h2, h1]
  unfold mapV
  rw [bind_as, bind_as]
  congr 1
  funext l
  simp only [List.length_nil, Nat.zero_add, List.nil_append]
  by_cases hl : l.length ≤ sizeLine
  · rw [if_pos (.inl hl), decide_eq_true hl]
    rfl
  · rw [if_neg, decide_eq_false hl]
    · rfl
    · rintro (z | z)
      · exact hl z
      · rw [z] at hl; exact hl (Nat.zero_le _)
/-! lists of lists -/
def wll (xss : List (List D)) : OV := .ls (xss.map wl)
theorem wll_er (xss : List (List D)) : (wll xss).er = .lst (xss.map D.lst) := by
  unfold wll
  rw [OV.er, OV.ers_map, List.map_map]
  congr 1
  apply List.map_congr_left
  intro x _
  exact wl_er x
def nestV (ds : List D) : Res (List (List D)) := gd (decide (ds.length ≤ sizeLine)) (ds.map fun _ => [])
theorem compL_nest {io vs : List Nat} {g : FG} {τ0 : T} (h : ∀ d, ∃ τ1, g d τ0 = .ok τ1 ∧ wipeT τ1 vs = τ0) : ∀ (ds : List D) (acc : List OV) (τ : T), wipeT τ vs = τ0 → (compL io vs true g yesT (lstF nilA) ds acc τ).bind (fun x => .ok (x.1, wipeT x.2 vs)) = if acc.length + ds.length ≤ sizeLine ∨ ds = [] then .ok (acc ++ ds.map (fun _ => wl []), τ0) else .bad
  | [], acc, τ, e => by rw [compL, okb, e]; simp
  | d :: ds, acc, τ, e => by
    obtain ⟨τ1, e1, e2⟩ := h d
    rw [compL, e, e1, okb]
    show (if acc.length < sizeLine then compL io vs true g yesT (lstF nilA) ds (acc ++ [wl []]) τ1 else Res.bad).bind _ = _
    by_cases hl : acc.length < sizeLine
    · rw [if_pos hl, compL_nest h ds (acc ++ [wl []]) τ1 e2]
      simp only [List.length_append, List.length_cons, List.length_nil, List.map_cons, List.append_assoc, List.singleton_append]
      by_cases hq : ds = []
      · subst hq
        rw [if_pos (.inr rfl), if_pos (.inl (by simp; omega))]
      · have e3 : acc.length + (0 + 1) + ds.length = acc.length + (ds.length + 1) := by omega
        simp only [e3, hq, or_false, reduceCtorEq]
    · rw [if_neg hl, badb, if_neg]
      simp
      omega
theorem comp_nest {io vs : List Nat} {g : FG} (τ0 : T) {τ : T} (e : wipeT τ vs = τ0) (hz : (vs.all (noOwn τ) && vs.all (fun i => decide (i ∉ io))) = true) (h : ∀ d, ∃ τ1, g d τ0 = .ok τ1 ∧ wipeT τ1 vs = τ0) (ds : List D) :
    compK io vs true g yesT (lstF nilA) (ds, τ) = (nestV ds).bind fun l => .ok (.val (wll l), backT τ0 τ vs) := by
  rw [compK_e _ _ _ _ _ _ _ _ hz]
  have h1 := compL_nest (io := io) h ds [] τ e
  have h2 : (compL io vs true g yesT (lstF nilA) ds [] τ).bind (compK2 vs τ) = ((compL io vs true g yesT (lstF nilA) ds [] τ).bind (fun x => .ok (x.1, wipeT x.2 vs))).bind fun y => .ok (.val (.ls y.1), backT y.2 τ vs) := by
    rw [bind_as]; rfl
  rw [h2, h1]
  unfold nestV wll
  simp only [List.length_nil, Nat.zero_add, List.nil_append]
  by_cases hl : ds.length ≤ sizeLine
  · rw [if_pos (.inl hl), decide_eq_true hl]
    show Res.ok _ = .ok _
    rw [List.map_map]
    rfl
  · rw [if_neg, decide_eq_false hl]
    · rfl
    · rintro (z | z)
      · exact hl z
      · rw [z] at hl; exact hl (Nat.zero_le _)
def nappV (xss : List (List D)) (k d : D) : Res (List (List D)) := match k with
  | .int k => match ixN xss.length k with
    | some j => match xss[j]? with
      | some ys => gd (decide (ys.length < sizeLine)) (xss.set j (ys ++ [d]))
      | none => .bad
    | none => .bad
  | _ => .bad
theorem nappK_v (i : Nat) (τ : T) (xss : List (List D)) (k d : D) : nappK i τ (some (wll xss)) (some k) (some d) = (nappV xss k d).bind fun y => .ok (.val (.fz .non), τ.set i (some (wll y))) := by
  cases k <;> first | rfl | skip
  rename_i k
  unfold nappK nappV wll
  dsimp only
  rw [List.length_map]
  cases ixN xss.length k with
  | none => rfl
  | some j =>
    dsimp only
    rw [List.getElem?_map]
    cases xss[j]? with
    | none => rfl
    | some ys =>
      show (if (ys.map OV.fz).length < sizeLine then _ else Res.bad) = _
      rw [List.length_map]
      by_cases hl : ys.length < sizeLine
      · rw [if_pos hl]
        dsimp only
        rw [decide_eq_true hl, gdt, okb, List.map_set]
        unfold wl
        rw [List.map_append]
        rfl
      · rw [if_neg hl]
        dsimp only
        rw [decide_eq_false hl]
        rfl
theorem frz_wll (io : List Nat) (i : Nat) (τ : T) (xss : List (List D)) (h : decide (i ∈ io) = false) : frzSlot io i τ (some (wll xss)) = .ok (.lst (xss.map D.lst), τ.set i (some (.fz (.lst (xss.map D.lst))))) := by
  have e := wll_er xss
  unfold wll at *
  unfold frzSlot
  dsimp only
  rw [if_neg (of_decide_eq_false h), e]
theorem len_wll (xss : List (List D)) : lenS [wll xss] = (lenV (.lst (xss.map D.lst))).bind fun d => .ok (.fz d) := by
  unfold lenV lift1 lenS lenOf wll
  simp [OV.er, Res.bind]
theorem qLit_v (d : D) (τ : T) : qLit d τ = some d := (rfl)
/-! range as a list, stars, backwards -/
def rgV (d : D) : Res (List D) := match d with
  | .int n => gd (rgOk n) (rangeL 0 n.toNat 1)
  | _ => .bad
theorem rgL_v (τ : T) (d : D) : rgLM mkL τ (some (.fz d)) = (rgV d).bind fun ds => .ok (.val (wl ds), τ) := by
  cases d <;> first | rfl | skip
  rename_i n
  show gd (rgOk n) _ = (gd (rgOk n) _).bind _
  cases rgOk n <;> rfl
theorem rgT_v (τ : T) (d : D) : rgLM mkT τ (some (.fz d)) = (rgV d).bind fun ds => .ok (.val (.fz (.tup ds)), τ) := by
  cases d <;> first | rfl | skip
  rename_i n
  show gd (rgOk n) _ = (gd (rgOk n) _).bind _
  cases rgOk n <;> rfl
def seqV (d : D) : Res (List D) := Res.of (itemsEr d)
def valsL (ds : List D) : List Pre := ds.map fun d => .val (.fz d)
def starK3 (ds : List D) : List Pre × T → Res (List Pre × T) := fun x => .ok (valsL ds ++ x.1, x.2)
def starK2 (h : FA) : D × T → Res (List Pre × T) := fun x => (seqV x.1).bind fun ds => (h x.2).bind (starK3 ds)
def starK1 (io : List Nat) (h : FA) : Pre × T → Res (List Pre × T) := fun x => (settle io x.1 x.2).bind (starK2 h)
theorem starA_e (io : List Nat) (f : FP) (h : FA) (τ : T) : starA io f h τ = (f τ).bind (starK1 io h) := by
  unfold starA
  congr 1
  funext ⟨p, τ1⟩
  show (settle io p τ1).bind _ = (settle io p τ1).bind _
  congr 1
  funext ⟨d, τ2⟩
  unfold starK2 seqV
  dsimp only
  cases itemsEr d <;> rfl
theorem starK1_e (io : List Nat) (h : FA) (p : Pre) (τ : T) : starK1 io h (p, τ) = (settle io p τ).bind (starK2 h) := (rfl)
theorem starK2_e (h : FA) (d : D) (τ : T) : starK2 h (d, τ) = (seqV d).bind fun ds => (h τ).bind (starK3 ds) := (rfl)
theorem starK3_e (ds : List D) (ps : List Pre) (τ : T) : starK3 ds (ps, τ) = .ok (valsL ds ++ ps, τ) := (rfl)
theorem datas_app (ds : List D) (ps : List Pre) : datas (valsL ds ++ ps) = (datas ps).map (ds ++ ·) := by
  induction ds with
  | nil =>
    show datas ps = _
    cases datas ps <;> rfl
  | cons d ds ih =>
    show (datas (valsL ds ++ ps)).map (d :: ·) = _
    rw [ih]
    cases datas ps <;> rfl
def joinV (l : List D) : Res (List D) := gd (decide (l.length ≤ sizeLine)) l
theorem joinV_e (l : List D) : joinV l = gd (decide (l.length ≤ sizeLine)) l := (rfl)
def revV (d : D) : Res D := (revS (.fz d)).bind fun o => .ok o.er
theorem rev_v (d : D) : revS (.fz d) = (revV d).bind fun r => .ok (wr r) := by
  unfold revV
  cases d <;> first | rfl | skip
  rename_i ds
  show Res.ok (OV.ls (ds.reverse.map OV.fz)) = .ok (wr (OV.ls (ds.reverse.map OV.fz)).er)
  rw [wl_eq, wl_er]
  rfl
theorem wr_lst (ds : List D) : wr (.lst ds) = wl ds := (rfl)
theorem addV_lst (xs : List D) (d : D) : addV (.lst xs) d = (catV xs d).bind fun ds => .ok (.lst ds) := by
  unfold addV lift2
  show (catS (.fz (.lst xs)) (.fz d)).bind _ = _
  unfold catS
  cases d <;> first | rfl | skip
  rename_i ys
  dsimp only [listOf, catV]
  rw [gd_bind, gd_bind]
  simp only [er_ls, OV.ers_fz]
theorem mulV_lst (xs : List D) (d : D) : mulV (.lst xs) d = (repV xs d).bind fun ds => .ok (.lst ds) := by
  unfold mulV lift2
  cases d <;> first | rfl | skip
  rename_i k
  show (repS (.fz (.lst xs)) k).bind _ = _
  unfold repS
  dsimp only [listOf, repV]
  rw [gd_bind, gd_bind]
  simp only [er_ls, OV.ers_fz]
theorem sliV_lst (ds : List D) (lo hi : Option Int) : sliV (.lst ds) lo hi = .ok (.lst (cutD ds lo hi)) := by
  unfold sliV
  show Res.ok (OV.ls ((cutD ds lo hi).map OV.fz)).er = _
  rw [wl_eq, wl_er]
theorem truV_lst (ds : List D) : truV (.lst ds) = .ok (!ds.isEmpty) := (rfl)
theorem itemsV_lst (ds : List D) : itemsV (.lst ds) = .ok ds := (rfl)
theorem itemsV_tup (ds : List D) : itemsV (.tup ds) = .ok ds := (rfl)
theorem seqV_lst (ds : List D) : seqV (.lst ds) = .ok ds := (rfl)
theorem seqV_tup (ds : List D) : seqV (.tup ds) = .ok ds := (rfl)
theorem lstV_lst (ds : List D) : lstV (.lst ds) = .ok ds := (rfl)
theorem lstV_tup (ds : List D) : lstV (.tup ds) = .ok ds := (rfl)
theorem extV_lst (xs es : List D) : extV xs (.lst es) = gd (decide (xs.length + es.length ≤ sizeLine)) (xs ++ es) := (rfl)
theorem intD_int (i : Int) : intD (.int i) = .ok i := (rfl)
def max2V (a b : D) : Res D := (maxS [.fz a, .fz b]).bind fun o => .ok o.er
def min2V (a b : D) : Res D := (minS [.fz a, .fz b]).bind fun o => .ok o.er
def min3V (a b c : D) : Res D := (minS [.fz a, .fz b, .fz c]).bind fun o => .ok o.er
theorem max2_v (a b : D) : maxS [.fz a, .fz b] = (max2V a b).bind fun d => .ok (.fz d) := by
  unfold max2V
  cases a <;> cases b <;> rfl
theorem min2_v (a b : D) : minS [.fz a, .fz b] = (min2V a b).bind fun d => .ok (.fz d) := by
  unfold min2V
  cases a <;> cases b <;> rfl
theorem min3_v (a b c : D) : minS [.fz a, .fz b, .fz c] = (min3V a b c).bind fun d => .ok (.fz d) := by
  unfold min3V
  cases a <;> cases b <;> cases c <;> rfl
theorem best_fz (pick : Int → List Int → Int) (d : D) : bestList pick (.fz d) = ((bestList pick (.fz d)).bind fun o => .ok o.er).bind fun d => .ok (.fz d) := by
  unfold bestList
  cases listOf (.fz d) with
  | none => rfl
  | some ds =>
    dsimp only
    cases intsOf ds with
    | none => rfl
    | some ns => cases ns <;> rfl
theorem max1_v (d : D) : maxS [.fz d] = (maxV d).bind fun d => .ok (.fz d) := by
  have h : maxS [.fz d] = bestList maxInts (.fz d) := by cases d <;> rfl
  unfold maxV lift1
  rw [h]
  exact best_fz _ d
theorem min1_v (d : D) : minS [.fz d] = (minV d).bind fun d => .ok (.fz d) := by
  have h : minS [.fz d] = bestList minInts (.fz d) := by cases d <;> rfl
  unfold minV lift1
  rw [h]
  exact best_fz _ d
theorem max_wl (ds : List D) : maxS [wl ds] = (maxV (.lst ds)).bind fun d => .ok (.fz d) := by
  rw [← max1_v]
  show bestList maxInts (wl ds) = bestList maxInts (.fz (.lst ds))
  unfold bestList wl
  rw [listOf_ls, listOf_lst]
theorem min_wl (ds : List D) : minS [wl ds] = (minV (.lst ds)).bind fun d => .ok (.fz d) := by
  rw [← min1_v]
  show bestList minInts (wl ds) = bestList minInts (.fz (.lst ds))
  unfold bestList wl
  rw [listOf_ls, listOf_lst]
end Pf

/-! VB: plain functions worked out on known data. -/
namespace Pf
open PySem PySem.Spec PyProof.Rows L2
/-! ### single steps -/
theorem big_line : (2000000 : Nat) ≤ sizeLine := by decide
theorem sz_ok {n : Nat} (h : n ≤ 1000000) : decide (n ≤ sizeLine) = true := decide_eq_true (by have := big_line; omega)
theorem sz_lt {n : Nat} (h : n ≤ 1000000) : decide (n < sizeLine) = true := decide_eq_true (by have := big_line; omega)
theorem idxV_tup (ds : List D) (i : Int) : idxV (.tup ds) (.int i) = Res.of (atI ds i) := by
  unfold idxV lift2 idxS
  dsimp only
  cases atI ds i <;> rfl
theorem idxV_lst (ds : List D) (i : Int) : idxV (.lst ds) (.int i) = Res.of (atI ds i) := by
  unfold idxV lift2 idxS
  dsimp only
  cases atI ds i <;> rfl
theorem ix_tup {ds : List D} {v : Nat} {x : D} (h : ds[v]? = some x) : idxV (.tup ds) (.int (v : Int)) = .ok x := by
  have hv : v < ds.length := (List.getElem?_eq_some_iff.mp h).1
  rw [idxV_tup, atI_lt (by omega) (by omega), Int.toNat_natCast, h]
  rfl
theorem ix_lst {ds : List D} {v : Nat} {x : D} (h : ds[v]? = some x) : idxV (.lst ds) (.int (v : Int)) = .ok x := by
  have hv : v < ds.length := (List.getElem?_eq_some_iff.mp h).1
  rw [idxV_lst, atI_lt (by omega) (by omega), Int.toNat_natCast, h]
  rfl
theorem it0 (a : D) (l : List D) : idxV (.tup (a :: l)) (.int 0) = .ok a := by rw [idxV_tup, atI0]; rfl
theorem it1 (a b : D) (l : List D) : idxV (.tup (a :: b :: l)) (.int 1) = .ok b := by rw [idxV_tup, atI1]; rfl
theorem it2 (a b c : D) (l : List D) : idxV (.tup (a :: b :: c :: l)) (.int 2) = .ok c := by rw [idxV_tup, atI2]; rfl
theorem it3 (a b c e : D) (l : List D) : idxV (.tup (a :: b :: c :: e :: l)) (.int 3) = .ok e := by rw [idxV_tup, atI3]; rfl
theorem il0 (a : D) (l : List D) : idxV (.lst (a :: l)) (.int 0) = .ok a := by rw [idxV_lst, atI0]; rfl
theorem il1 (a b : D) (l : List D) : idxV (.lst (a :: b :: l)) (.int 1) = .ok b := by rw [idxV_lst, atI1]; rfl
theorem il2 (a b c : D) (l : List D) : idxV (.lst (a :: b :: c :: l)) (.int 2) = .ok c := by rw [idxV_lst, atI2]; rfl
theorem il3 (a b c e : D) (l : List D) : idxV (.lst (a :: b :: c :: e :: l)) (.int 3) = .ok e := by rw [idxV_lst, atI3]; rfl
theorem len_tupV (ds : List D) : lenV (.tup ds) = .ok (.int ds.length) := (rfl)
theorem len_lstV (ds : List D) : lenV (.lst ds) = .ok (.int ds.length) := (rfl)
theorem addI (i j : Int) : addV (.int i) (.int j) = .ok (.int (i + j)) := (rfl)
theorem subI (i j : Int) : subV (.int i) (.int j) = .ok (.int (i - j)) := (rfl)
theorem addT (xs ys : List D) : addV (.tup xs) (.tup ys) = (gd (decide (xs.length + ys.length ≤ sizeLine)) (D.tup (xs ++ ys))) := by
  unfold addV lift2
  show (gd _ _).bind _ = _
  rw [gd_bind]
  rfl
theorem mulI {i j : Int} (h : mulOk i j = true) : mulV (.int i) (.int j) = .ok (.int (i * j)) := by
  unfold mulV lift2
  show (gd _ _).bind _ = _
  rw [h]
  rfl
theorem divI {i j : Int} (h : 0 < j) (h2 : j.natAbs.log2 < 9000) : divV (.int i) (.int j) = .ok (.int (i / j)) := by
  unfold divV lift2
  show (gd _ _).bind _ = _
  rw [decide_eq_true ⟨h, h2⟩]
  rfl
theorem modI {i j : Int} (h : 0 < j) : modV (.int i) (.int j) = .ok (.int (i % j)) := by
  unfold modV lift2
  show (gd _ _).bind _ = _
  rw [decide_eq_true h]
  rfl
theorem eqI (i j : Int) : eqV (.int i) (.int j) = .ok (decide (i = j)) := by
  unfold eqV depOk
  simp only [dep_int, eqv_int]
  by_cases h : i = j <;> simp [h, gd]
theorem neI (i j : Int) : neV (.int i) (.int j) = .ok (!decide (i = j)) := by
  unfold neV depOk
  simp only [dep_int, eqv_int]
  by_cases h : i = j <;> simp [h, gd]
theorem lt_intV (i j : Int) : ltV (.int i) (.int j) = .ok (decide (i < j)) := by
  unfold ltV
  rw [cmpOk_int, lt_int]
  rfl
theorem gt_intV (i j : Int) : gtV (.int i) (.int j) = .ok (decide (j < i)) := by
  unfold gtV
  rw [cmpOk_int, lt_int]
  rfl
theorem le_intV (i j : Int) : leV (.int i) (.int j) = .ok (!decide (j < i)) := by
  unfold leV
  rw [cmpOk_int, lt_int]
  rfl
theorem ge_intV (i j : Int) : geV (.int i) (.int j) = .ok (!decide (i < j)) := by
  unfold geV
  rw [cmpOk_int, lt_int]
  rfl
theorem intI (i : Int) : intV (.int i) = .ok (.int i) := (rfl)
theorem intB (b : Bool) : intV (.bl b) = .ok (.int (if b then 1 else 0)) := (rfl)
theorem absI (i : Int) : absV (.int i) = .ok (.int (if i < 0 then -i else i)) := (rfl)
theorem tupL (ds : List D) : tupV (.lst ds) = .ok (.tup ds) := (rfl)
theorem tupT (ds : List D) : tupV (.tup ds) = .ok (.tup ds) := (rfl)
theorem maxI (i j : Int) : max2V (.int i) (.int j) = .ok (.int (max i j)) := by
  show Res.ok (D.int (if j > i then j else i)) = _
  have : (if j > i then j else i) = max i j := by split <;> omega
  rw [this]
theorem minI (i j : Int) : min2V (.int i) (.int j) = .ok (.int (min i j)) := by
  show Res.ok (D.int (if j < i then j else i)) = _
  have : (if j < i then j else i) = min i j := by split <;> omega
  rw [this]
theorem min3I (a b c : Int) : min3V (.int a) (.int b) (.int c) = .ok (.int (min a (min b c))) := by
  show Res.ok (D.int (if b < a then (if c < b then c else b) else (if c < a then c else a))) = _
  have : (if b < a then (if c < b then c else b) else (if c < a then c else a)) = min a (min b c) := by split <;> split <;> omega
  rw [this]
theorem un2_e (a b : D) : un2 (.tup [a, b]) = .ok (a, b) := (rfl)
theorem un3_e (a b c : D) : un3 (.tup [a, b, c]) = .ok (a, b, c) := (rfl)
theorem un4_e (a b c e : D) : un4 (.tup [a, b, c, e]) = .ok (a, b, c, e) := (rfl)
theorem app_ok {xs : List D} {d : D} (h : xs.length ≤ 1000000) : appV xs d = .ok (xs ++ [d]) := by unfold appV; rw [sz_lt h]; rfl
theorem ext_ok {xs es : List D} (h : xs.length + es.length ≤ 1000000) : extV xs (.lst es) = .ok (xs ++ es) := by
  show gd _ _ = _
  rw [sz_ok h]; rfl
theorem cat_ok {xs es : List D} (h : xs.length + es.length ≤ 1000000) : catV xs (.lst es) = .ok (xs ++ es) := by
  show gd _ _ = _
  rw [sz_ok h]; rfl
theorem is_non (d : D) : isV d .non = .ok (isNonD d) := (rfl)
theorem isnot_non (d : D) : isnotV d .non = .ok (!isNonD d) := (rfl)
theorem dat_tup (k : List D → List D) (ds : List D) : datV k (.tup ds) = .ok (k ds) := (rfl)
theorem dat_lst (k : List D → List D) (ds : List D) : datV k (.lst ds) = .ok (k ds) := (rfl)
/-- a number -/
abbrev nD (v : Nat) : D := .int (v : Int)
theorem rng1_nat {n : Nat} (h : n ≤ 1000000) : rng1V (.int (n : Int)) = .ok ((List.range n).map nD) := by
  unfold rng1V range1S okR
  dsimp only
  rw [decide_eq_true (by omega)]
  show Res.ok (rangeL 0 (n : Int).toNat 1) = _
  unfold rangeL
  rw [Int.toNat_natCast]
  congr 1
  apply List.map_congr_left
  intro i _
  show D.int (0 + (i : Int) * 1) = .int i
  rw [Int.mul_one, Int.zero_add]
theorem rng1_lit {k : Int} {n : Nat} (h : k = (n : Int)) (h2 : n ≤ 1000000) : rng1V (.int k) = .ok ((List.range n).map nD) := by rw [h]; exact rng1_nat h2
theorem rgV_nat {n : Nat} (h : n ≤ 1000000) : rgV (.int (n : Int)) = .ok ((List.range n).map nD) := by
  unfold rgV rgOk
  dsimp only
  have e : Pf.rgOk (n : Int) = true := decide_eq_true (by omega)
  show gd (Pf.rgOk (n : Int)) _ = _
  rw [e]
  show Res.ok (rangeL 0 (n : Int).toNat 1) = _
  unfold rangeL
  rw [Int.toNat_natCast]
  congr 1
  apply List.map_congr_left
  intro i _
  show D.int (0 + (i : Int) * 1) = .int i
  rw [Int.mul_one, Int.zero_add]
theorem rng2_nat {a b : Int} (h0 : -1000000 ≤ a) (h : a ≤ 1000000) (h3 : -1000000 ≤ b) (h2 : b ≤ 1000000) : rng2V (.int a) (.int b) = .ok ((List.range (b - a).toNat).map fun (i : Nat) => D.int (a + (i : Int))) := by
  unfold rng2V range2S okR
  dsimp only
  rw [decide_eq_true (by omega), decide_eq_true (by omega)]
  show Res.ok (rangeL a (b - a).toNat 1) = _
  unfold rangeL
  congr 1
  apply List.map_congr_left
  intro i _
  rw [Int.mul_one]
theorem enumL_map {α : Type} (f : α → D) : ∀ (xs : List α) (k : Nat), enumL k (xs.map f) = (xs.zipIdx k).map fun p => .tup [nD p.2, f p.1]
  | [], k => rfl
  | x :: xs, k => by
    rw [List.map_cons, enumL, enumL_map f xs (k + 1), List.zipIdx_cons, List.map_cons]
/-! ### equal data -/
theorem eqv_str (x y : Str) : D.eqv (.str x) (.str y) = (x == y) := by
  unfold D.eqv D.py
  simp [PyData.eqv]
theorem dep_str (x : Str) : D.dep (.str x) = 0 := by
  unfold D.dep D.py
  simp [PyData.depth]
theorem dep_non : D.dep .non = 0 := by
  unfold D.dep D.py
  simp [PyData.depth]
theorem dep_bl (b : Bool) : D.dep (.bl b) = 0 := by
  unfold D.dep D.py
  simp [PyData.depth]
theorem eq_strV (d : D) (x : Str) : eqV d (.str x) = .ok (D.eqv d (.str x)) := by
  unfold eqV depOk
  rw [decide_eq_true (by rw [dep_str]; omega)]
  rfl
theorem ne_strV (d : D) (x : Str) : neV d (.str x) = .ok (!D.eqv d (.str x)) := by
  unfold neV depOk
  rw [decide_eq_true (by rw [dep_str]; omega)]
  rfl
theorem eqv_int_int (i j : Int) : D.eqv (.int i) (.int j) = decide (i = j) := by
  rw [eqv_int]
  by_cases h : i = j <;> simp [h]
theorem eqv_non_int (j : Int) : D.eqv .non (.int j) = false := by
  unfold D.eqv D.py
  simp [PyData.eqv]
theorem eqv_int_non (j : Int) : D.eqv (.int j) .non = false := by
  unfold D.eqv D.py
  simp [PyData.eqv]
theorem eqv_nilL : ∀ xs : List D, D.eqv (.lst xs) (.lst []) = xs.isEmpty
  | [] => by unfold D.eqv; simp [D.py, D.pys, PyData.eqv, PyData.eqvAll]
  | x :: xs => by unfold D.eqv; simp [D.py, D.pys, PyData.eqv, PyData.eqvAll]
theorem dep_nilL : D.dep (.lst []) ≤ 1 := by unfold D.dep D.py D.pys; simp [PyData.depth, PyData.depthAll]
theorem eq_nil (xs : List D) : eqV (.lst xs) (.lst []) = .ok xs.isEmpty := by
  unfold eqV depOk
  rw [decide_eq_true (by have := dep_nilL; omega), eqv_nilL]
  rfl
theorem ne_nil (xs : List D) : neV (.lst xs) (.lst []) = .ok (!xs.isEmpty) := by
  unfold neV depOk
  rw [decide_eq_true (by have := dep_nilL; omega), eqv_nilL]
  rfl
theorem eqv_self (d : D) : D.eqv d d = true := PySem.SeqAt.eqv_refl_plain d.py d.plain
theorem eqv_tup : ∀ xs ys : List D, D.eqv (.tup xs) (.tup ys) = (decide (xs.length = ys.length) && (xs.zip ys).all fun p => D.eqv p.1 p.2) := by
  have h : ∀ xs ys : List D, PyData.eqvAll (D.pys xs) (D.pys ys) = (decide (xs.length = ys.length) && (xs.zip ys).all fun p => D.eqv p.1 p.2) := by
    intro xs
    induction xs with
    | nil => intro ys; cases ys <;> simp [D.pys, PyData.eqvAll]
    | cons x xs ih =>
      intro ys
      cases ys with
      | nil => simp [D.pys, PyData.eqvAll]
      | cons y ys =>
        simp only [D.pys, PyData.eqvAll, ih ys, List.length_cons, List.zip_cons_cons, List.all_cons, D.eqv]
        by_cases e : xs.length = ys.length
        · simp [e]
        · simp [e]
  intro xs ys
  unfold D.eqv
  simp only [D.py, PyData.eqv]
  exact h xs ys
/-! ### numbers among numbers -/
theorem mem_nats (v : Nat) : ∀ l : List Nat, D.mem (nD v) (l.map nD) = decide (v ∈ l)
  | [] => by simp [D.mem]
  | w :: l => by
    have ih := mem_nats v l
    unfold D.mem at *
    rw [List.map_cons, List.any_cons, ih, eqv_int_int]
    by_cases h : w = v
    · subst h; simp
    · have : ¬ ((w : Int) = (v : Int)) := by omega
      simp [this, Ne.symm h]
theorem mem_ints (v : Int) : ∀ l : List Int, D.mem (.int v) (l.map D.int) = decide (v ∈ l)
  | [] => by simp [D.mem]
  | w :: l => by
    have ih := mem_ints v l
    unfold D.mem at *
    rw [List.map_cons, List.any_cons, ih, eqv_int_int]
    by_cases h : w = v
    · subst h; simp
    · simp [h, Ne.symm h]
theorem non_nats : ∀ l : List Nat, D.mem .non (l.map nD) = false
  | [] => by simp [D.mem]
  | w :: l => by
    have ih := non_nats l
    unfold D.mem at *
    rw [List.map_cons, List.any_cons, ih, eqv_int_non]
    rfl
theorem dep_int0 (i : Int) : (decide ((D.int i).dep ≤ 60)) = true := by rw [dep_int]; rfl
theorem mem_tupN (neg : Bool) (v : Nat) (l : List Nat) : memV neg (nD v) (.tup (l.map nD)) = .ok (neg.xor (decide (v ∈ l))) := by
  show gd _ _ = _
  rw [dep_int0, mem_nats]
  rfl
theorem mem_lstN (neg : Bool) (v : Nat) (l : List Nat) : memV neg (nD v) (.lst (l.map nD)) = .ok (neg.xor (decide (v ∈ l))) := by
  show gd _ _ = _
  rw [dep_int0, mem_nats]
  rfl
/-- a number or nothing -/
def oD : Option Nat → D
  | none => .non
  | some v => nD v
theorem mem_tupO (neg : Bool) (o : Option Nat) (l : List Nat) : memV neg (oD o) (.tup (l.map nD)) = .ok (neg.xor (o.any fun v => decide (v ∈ l))) := by
  cases o with
  | none =>
    show gd (decide (D.non.dep ≤ 60)) _ = _
    rw [dep_non, oD, non_nats]
    rfl
  | some v => exact mem_tupN neg v l
theorem mem_lstO (neg : Bool) (o : Option Nat) (l : List Nat) : memV neg (oD o) (.lst (l.map nD)) = .ok (neg.xor (o.any fun v => decide (v ∈ l))) := by
  cases o with
  | none =>
    show gd (decide (D.non.dep ≤ 60)) _ = _
    rw [dep_non, oD, non_nats]
    rfl
  | some v => exact mem_lstN neg v l
theorem isNon_oD (o : Option Nat) : isNonD (oD o) = o.isNone := by cases o <;> rfl
theorem nat_xor_f (b : Bool) : Bool.xor false b = b := by cases b <;> rfl
theorem nat_xor_t (b : Bool) : Bool.xor true b = !b := by cases b <;> rfl
/-! ### lists of data, item by item -/
theorem mapW_ok {α : Type} {g : α → D} {h : α → Option D} {f : D → Res (Option D)} : ∀ xs : List α, (∀ x ∈ xs, f (g x) = .ok (h x)) → mapW f (xs.map g) = .ok (xs.filterMap h)
  | [], _ => rfl
  | x :: xs, hx => by
    rw [List.map_cons, mapW, hx x List.mem_cons_self, okb, mapW_ok xs (fun y hy => hx y (List.mem_cons_of_mem _ hy)), okb, List.filterMap_cons]
    cases h x <;> rfl
theorem mapV_ok {α : Type} {g : α → D} {h : α → Option D} {f : D → Res (Option D)} {xs : List α} (hx : ∀ x ∈ xs, f (g x) = .ok (h x)) (hl : xs.length ≤ 1000000) : mapV f (xs.map g) = .ok (xs.filterMap h) := by
  unfold mapV
  rw [mapW_ok xs hx, okb, sz_ok (Nat.le_trans (List.length_filterMap_le _ _) hl)]
  rfl
theorem filterMap_if {α : Type} (p : α → Bool) (e : α → D) : ∀ xs : List α, xs.filterMap (fun x => if p x = true then some (e x) else none) = (xs.filter p).map e
  | [] => rfl
  | x :: xs => by
    rw [List.filterMap_cons, List.filter_cons]
    cases h : p x with
    | true => simp only [if_true, List.map_cons]; rw [filterMap_if p e xs]
    | false => simp only [Bool.false_eq_true, if_false]; rw [filterMap_if p e xs]
theorem mapV_if {α : Type} {g : α → D} (p : α → Bool) (e : α → D) {f : D → Res (Option D)} {xs : List α} (hx : ∀ x ∈ xs, f (g x) = .ok (if p x = true then some (e x) else none)) (hl : xs.length ≤ 1000000) : mapV f (xs.map g) = .ok ((xs.filter p).map e) := by
  rw [mapV_ok hx hl, filterMap_if]
theorem mapV_map {α : Type} {g : α → D} (e : α → D) {f : D → Res (Option D)} {xs : List α} (hx : ∀ x ∈ xs, f (g x) = .ok (some (e x))) (hl : xs.length ≤ 1000000) : mapV f (xs.map g) = .ok (xs.map e) := by
  rw [mapV_ok hx hl, List.filterMap_eq_map']
theorem allV_t (l : List Bool) : allV true (.lst (l.map D.bl)) = .ok (l.all id) := by
  have h : blsOf (l.map D.bl) = some l := by
    induction l with
    | nil => rfl
    | cons b l ih =>
      show (blsOf (l.map D.bl)).map (b :: ·) = _
      rw [ih]
      rfl
  unfold allV
  dsimp only
  rw [h]
  rfl
theorem allV_f (l : List Bool) : allV false (.lst (l.map D.bl)) = .ok (l.any id) := by
  have h : blsOf (l.map D.bl) = some l := by
    induction l with
    | nil => rfl
    | cons b l ih =>
      show (blsOf (l.map D.bl)).map (b :: ·) = _
      rw [ih]
      rfl
  unfold allV
  dsimp only
  rw [h]
  rfl
theorem intsOf_ints (l : List Int) : intsOf (l.map D.int) = some l := by
  induction l with
  | nil => rfl
  | cons b l ih =>
    show (intsOf (l.map D.int)).map (b :: ·) = _
    rw [ih]
    rfl
theorem sumI (l : List Int) : sumV (.lst (l.map D.int)) = .ok (.int l.sum) := by
  unfold sumV lift1 sumS
  dsimp only [listOf]
  rw [intsOf_ints]
  rfl
theorem sortI (l : List Int) (h : l.length ≤ 1000000) : sortV (.lst (l.map D.int)) = .ok ((l.mergeSort fun a b => decide (a ≤ b)).map D.int) := by
  unfold sortV
  have e : sortS [.fz (.lst (l.map D.int))] = sortS [.ls ((l.map D.int).map OV.fz)] := by
    unfold sortS
    dsimp only
    rw [listOf_ls, listOf_lst]
  rw [e, sortS_ints l h]
  dsimp only
  rw [OV.ers_fz]
/-! ### loops with a word that holds -/
theorem foldV_inv {S : Type} (P : S → Prop) {f : D → S → Res S} {ds : List D} (h : ∀ d ∈ ds, ∀ s, P s → ∃ s', f d s = .ok s' ∧ P s') : ∀ s, P s → ∃ s', foldV f ds s = .ok s' ∧ P s' := by
  induction ds with
  | nil => exact fun s hs => ⟨s, rfl, hs⟩
  | cons d ds ih =>
    intro s hs
    obtain ⟨s1, e1, h1⟩ := h d List.mem_cons_self s hs
    obtain ⟨s2, e2, h2⟩ := ih (fun d hd => h d (List.mem_cons_of_mem _ hd)) s1 h1
    exact ⟨s2, by rw [foldV, e1, okb, e2], h2⟩
theorem foldV_ix {S : Type} (P : Nat → S → Prop) {f : D → S → Res S} : ∀ {ds : List D} {k : Nat}, (∀ i d s, ds[i]? = some d → P (k + i) s → ∃ s', f d s = .ok s' ∧ P (k + i + 1) s') → ∀ s, P k s → ∃ s', foldV f ds s = .ok s' ∧ P (k + ds.length) s'
  | [], k, _, s, hs => ⟨s, rfl, hs⟩
  | d :: ds, k, h, s, hs => by
    obtain ⟨s1, e1, h1⟩ := h 0 d s rfl hs
    obtain ⟨s2, e2, h2⟩ := foldV_ix P (ds := ds) (k := k + 1) (fun i d s hd hp => by
      have := h (i + 1) d s (by simpa using hd) (by rw [show k + (i + 1) = k + 1 + i by omega]; exact hp)
      rw [show k + (i + 1) + 1 = k + 1 + i + 1 by omega] at this
      exact this) s1 h1
    refine ⟨s2, by rw [foldV, e1, okb, e2], ?_⟩
    rw [List.length_cons, show k + (ds.length + 1) = k + 1 + ds.length by omega]
    exact h2
/-- the loop as a fold of plain values -/
theorem foldV_map {α β S : Type} {f : D → S → Res S} {g : α → D} {t : β → S} {k : β → α → β} : ∀ (xs : List α) (b : β), (∀ x ∈ xs, ∀ b, f (g x) (t b) = .ok (t (k b x))) → foldV f (xs.map g) (t b) = .ok (t (xs.foldl k b))
  | [], b, _ => rfl
  | x :: xs, b, h => by
    rw [List.map_cons, foldV, h x List.mem_cons_self, okb, foldV_map xs (k b x) fun y hy => h y (List.mem_cons_of_mem _ hy)]
    rfl
theorem forV_inv {S R : Type} (P : S → Prop) {f : D → S → Res (FlV S R)} {ds : List D} (h : ∀ d ∈ ds, ∀ s, P s → ∃ s', f d s = .ok (.nx s') ∧ P s') : ∀ s, P s → ∃ s', forV f ds s = .ok (.nx s') ∧ P s' := by
  induction ds with
  | nil => exact fun s hs => ⟨s, rfl, hs⟩
  | cons d ds ih =>
    intro s hs
    obtain ⟨s1, e1, h1⟩ := h d List.mem_cons_self s hs
    obtain ⟨s2, e2, h2⟩ := ih (fun d hd => h d (List.mem_cons_of_mem _ hd)) s1 h1
    exact ⟨s2, by rw [forV, e1, okb]; exact e2, h2⟩
theorem whlV_inv {S : Type} (P : Nat → S → Prop) {c : S → Res Bool} {f : S → Res S} (h : ∀ m s, P m s → (c s = .ok false ∧ ∃ Q : Prop, Q) ∨ (c s = .ok true ∧ ∃ s' m', f s = .ok s' ∧ P m' s' ∧ m' < m)) :
    ∀ (n m : Nat) s, P m s → m < n → ∃ s' m', whlV c f n s = .ok s' ∧ P m' s' ∧ c s' = .ok false
  | 0, m, s, _, hn => absurd hn (by omega)
  | n + 1, m, s, hs, hn => by
    rcases h m s hs with ⟨e, _⟩ | ⟨e, s', m', e2, h2, hl⟩
    · exact ⟨s, m, by rw [whlV, e, okb, if_neg (by simp)], hs, e⟩
    · obtain ⟨s2, m2, e3, h3, e4⟩ := whlV_inv P h n m' s' h2 (by omega)
      exact ⟨s2, m2, by rw [whlV, e, okb, if_pos rfl, e2, okb, e3], h3, e4⟩
theorem mapWS_inv {S : Type} (P : S → Prop) (Q : D → D → Prop) {f : D → S → Res (Option D × S)} {ds : List D} (h : ∀ d ∈ ds, ∀ s, P s → ∃ o s', f d s = .ok (o, s') ∧ P s' ∧ ∀ x, o = some x → Q d x) :
    ∀ s, P s → ∃ l s', mapWS f ds s = .ok (l, s') ∧ P s' ∧ l.length ≤ ds.length ∧ ∀ x ∈ l, ∃ d ∈ ds, Q d x := by
  induction ds with
  | nil => exact fun s hs => ⟨[], s, rfl, hs, Nat.le_refl _, fun x hx => absurd hx (by simp)⟩
  | cons d ds ih =>
    intro s hs
    obtain ⟨o, s1, e1, h1, q1⟩ := h d List.mem_cons_self s hs
    obtain ⟨l, s2, e2, h2, l2, q2⟩ := ih (fun d hd => h d (List.mem_cons_of_mem _ hd)) s1 h1
    cases o with
    | none => exact ⟨l, s2, by rw [mapWS, e1, okb, e2, okb], h2, by rw [List.length_cons]; omega, fun x hx => by obtain ⟨d', hd, q⟩ := q2 x hx; exact ⟨d', List.mem_cons_of_mem _ hd, q⟩⟩
    | some y =>
      refine ⟨y :: l, s2, by rw [mapWS, e1, okb, e2, okb], h2, by rw [List.length_cons, List.length_cons]; omega, fun x hx => ?_⟩
      rcases List.mem_cons.mp hx with rfl | hx
      · exact ⟨d, List.mem_cons_self, q1 _ rfl⟩
      · obtain ⟨d', hd, q⟩ := q2 x hx
        exact ⟨d', List.mem_cons_of_mem _ hd, q⟩
theorem mapVS_of {S : Type} {f : D → S → Res (Option D × S)} {ds : List D} {s s' : S} {l : List D} (h : mapWS f ds s = .ok (l, s')) (hl : l.length ≤ 1000000) : mapVS f ds s = .ok (l, s') := by
  unfold mapVS
  rw [h, okb]
  show gd (decide (l.length ≤ sizeLine)) _ = _
  rw [sz_ok hl]
  rfl
end Pf

/-! VL: what all laws have: the bag, what is taken of it, one of some, told alike. -/
namespace Lw
open PySem Pf
def vc__law_bag_1 (d : D) : Res (Option D) :=
  (absV d).bind fun x_3 => Res.ok (some x_3)
def v__law_bag (script : D) : Res (List D) :=
  (sliV script none (some 63)).bind fun x_1 => (itemsV x_1).bind fun l_2 => (mapV (vc__law_bag_1) l_2).bind fun l_4 => Res.ok ([(D.int 0), (D.int 1234567891), (D.int 0), (D.lst l_4)])
def v__law_take (bag : List D) (many : D) : Res (D × List D) :=
  (idxV (D.lst bag) (D.int 0)).bind fun x_1 => (eqV x_1 (D.int 0)).bind fun b_2 => ((if b_2 = true then (idxV (D.lst bag) (D.int 3)).bind fun x_3 => (idxV (D.lst bag) (D.int 2)).bind fun x_4 => (intD x_4).bind fun i_5 => (sliV x_3 (some i_5) none).bind fun x_6 => (addV x_6 (D.lst [(D.int 0)])).bind fun x_7 => (idxV x_7 (D.int 0)).bind fun x_8 => 
  (getIV bag (D.int 2)).bind fun i_9 => (intD (D.int 1)).bind fun i_10 => (stV bag (D.int 2) (.int (i_9 + i_10))).bind fun bag_11 => 
  (powV (D.int 10) (D.int 18)).bind fun x_12 => (geV x_8 x_12).bind fun b_13 => ((if b_13 = true then (stV bag_11 (D.int 0) x_8).bind fun bag_14 => 
  Res.ok bag_14 else Res.ok bag_11 : Res (List D))).bind fun bag_15 => 
  (idxV (D.lst bag_15) (D.int 1)).bind fun x_16 => (mulV x_16 (D.int 48271)).bind fun x_17 => (intV x_8).bind fun x_18 => (modV x_18 (D.int 2147483647)).bind fun x_19 => (addV x_17 x_19).bind fun x_20 => (idxV (D.lst bag_15) (D.int 2)).bind fun x_21 => (mulV (D.int 7919) x_21).bind fun x_22 => (addV x_20 x_22).bind fun x_23 => 
  (intV x_23).bind fun x_24 => (modV x_24 (D.int 2147483647)).bind fun x_25 => (stV bag_15 (D.int 1) x_25).bind fun bag_26 => 
  Res.ok bag_26 else Res.ok bag : Res (List D))).bind fun bag_27 => 
  (idxV (D.lst bag_27) (D.int 0)).bind fun x_28 => (gtV x_28 (D.int 0)).bind fun b_29 => if b_29 = true then (idxV (D.lst bag_27) (D.int 0)).bind fun x_30 => (intV x_30).bind fun x_31 => (modV x_31 many).bind fun x_32 => 
  (idxV (D.lst bag_27) (D.int 0)).bind fun x_33 => (intV x_33).bind fun x_34 => (divV x_34 many).bind fun x_35 => (stV bag_27 (D.int 0) x_35).bind fun bag_36 => 
  Res.ok (x_32, bag_36)
  else (idxV (D.lst bag_27) (D.int 1)).bind fun x_37 => (addV x_37 (D.int 1)).bind fun x_38 => (mulV x_38 (D.int 39373)).bind fun x_39 => (intV x_39).bind fun x_40 => (modV x_40 (D.int 1000000007)).bind fun x_41 => 
  (mulV x_41 x_41).bind fun x_42 => (intV x_42).bind fun x_43 => (modV x_43 (D.int 998244353)).bind fun x_44 => (mulV x_44 (D.int 30011)).bind fun x_45 => (intV x_45).bind fun x_46 => (modV x_46 (D.int 998244353)).bind fun x_47 => 
  (divV x_47 (D.int 7)).bind fun x_48 => (intV x_48).bind fun x_49 => (modV x_49 many).bind fun x_50 => Res.ok (x_50, bag_27)
def v__law_some (bag : List D) (things : D) : Res (D × List D) :=
  (lenV things).bind fun x_1 => (v__law_take bag x_1).bind fun x_2 => (idxV things x_2.1).bind fun x_3 => Res.ok (x_3, x_2.2)
def v__law_alike (found : D) (due : D) : Res (D) :=
  (eqV found due).bind fun b_1 => (if b_1 = true then (reprV found).bind fun x_2 => (reprV due).bind fun x_3 => (eqV x_2 x_3).bind fun b_4 => Res.ok b_4 else Res.ok b_1).bind fun x_5 => Res.ok (D.bl x_5)
def bagL (m s p : Int) (ns : List Int) : List D := [.int m, .int s, .int p, .lst (ns.map D.int)]
def Bag (b : List D) : Prop := ∃ m s p ns, b = bagL m s p ns ∧ 0 ≤ m ∧ 0 ≤ s ∧ s < 2147483647 ∧ ns.length ≤ 63
theorem cut_ints (xs : List Int) (lo hi : Option Int) : ∃ ys : List Int, Pf.cutD (xs.map D.int) lo hi = ys.map D.int ∧ ys.length ≤ xs.length := by
  refine ⟨(xs.drop (HT.sIx xs.length 0 lo)).take (HT.sIx xs.length xs.length hi - HT.sIx xs.length 0 lo), ?_, ?_⟩
  · unfold Pf.cutD
    rw [List.length_map, List.map_take, List.map_drop]
  · rw [List.length_take, List.length_drop]
    omega
theorem st0 (a d : D) (l : List D) : stV (a :: l) (.int 0) d = .ok (d :: l) := by
  unfold stV
  dsimp only
  rw [List.length_cons, ix0]
  rfl
theorem st1 (a b d : D) (l : List D) : stV (a :: b :: l) (.int 1) d = .ok (a :: d :: l) := by
  unfold stV
  dsimp only
  rw [List.length_cons, List.length_cons, ix1]
  rfl
theorem st2 (a b c d : D) (l : List D) : stV (a :: b :: c :: l) (.int 2) d = .ok (a :: b :: d :: l) := by
  unfold stV
  dsimp only
  rw [List.length_cons, List.length_cons, List.length_cons, ix2]
  rfl
theorem get2 (a b : D) (i : Int) (l : List D) : getIV (a :: b :: .int i :: l) (.int 2) = .ok i := by
  unfold getIV
  dsimp only
  rw [atI2]
/-- what is left to do when the bag's first cell is known -/
def takeR (bag : List D) (many : D) : Res (D × List D) :=
  (idxV (D.lst bag) (D.int 0)).bind fun x_28 => (gtV x_28 (D.int 0)).bind fun b_29 => if b_29 = true then (idxV (D.lst bag) (D.int 0)).bind fun x_30 => (intV x_30).bind fun x_31 => (modV x_31 many).bind fun x_32 =>
  (idxV (D.lst bag) (D.int 0)).bind fun x_33 => (intV x_33).bind fun x_34 => (divV x_34 many).bind fun x_35 => (stV bag (D.int 0) x_35).bind fun bag_36 =>
  Res.ok (x_32, bag_36)
  else (idxV (D.lst bag) (D.int 1)).bind fun x_37 => (addV x_37 (D.int 1)).bind fun x_38 => (mulV x_38 (D.int 39373)).bind fun x_39 => (intV x_39).bind fun x_40 => (modV x_40 (D.int 1000000007)).bind fun x_41 =>
  (mulV x_41 x_41).bind fun x_42 => (intV x_42).bind fun x_43 => (modV x_43 (D.int 998244353)).bind fun x_44 => (mulV x_44 (D.int 30011)).bind fun x_45 => (intV x_45).bind fun x_46 => (modV x_46 (D.int 998244353)).bind fun x_47 =>
  (divV x_47 (D.int 7)).bind fun x_48 => (intV x_48).bind fun x_49 => (modV x_49 many).bind fun x_50 => Res.ok (x_50, bag)
theorem take_rest {m s p many : Int} {ns : List Int} (hm : 0 < many) (hm2 : many.natAbs.log2 < 9000) (h0 : 0 ≤ m) (h1 : 0 ≤ s) (h2 : s < 2147483647) (hl : ns.length ≤ 63) : ∃ v b', takeR (bagL m s p ns) (.int many) = .ok (.int v, b') ∧ Bag b' ∧ 0 ≤ v ∧ v < many := by
  have vm : ∀ i : Int, 0 ≤ i % many ∧ i % many < many := fun i => ⟨Int.emod_nonneg _ (by omega), Int.emod_lt_of_pos _ hm⟩
  have r2 : ∀ i : Int, mulOk i 39373 = true := fun i => mulOk_r (by decide) (by decide)
  have r3 : ∀ i : Int, mulOk i 30011 = true := fun i => mulOk_r (by decide) (by decide)
  have r5 : ∀ i : Int, mulOk (i % 1000000007) (i % 1000000007) = true := fun i => mulOk_l (by omega) (by omega)
  unfold takeR bagL
  simp only [il0, il1, gt_intV, okb]
  by_cases hg : 0 < m
  · simp only [hg, decide_true, if_true, intI, modI hm, divI hm hm2, st0, okb]
    exact ⟨_, _, rfl, ⟨_, _, _, ns, rfl, Int.ediv_nonneg h0 (by omega), h1, h2, hl⟩, (vm _).1, (vm _).2⟩
  · simp only [hg, decide_false, Bool.false_eq_true, if_false, addI, mulI (r2 _), mulI (r3 _), mulI (r5 _), intI, modI (show (0 : Int) < 1000000007 by omega), modI (show (0 : Int) < 998244353 by omega), divI (show (0 : Int) < 7 by omega) (by decide), modI hm, okb]
    exact ⟨_, _, rfl, ⟨_, _, _, ns, rfl, h0, h1, h2, hl⟩, (vm _).1, (vm _).2⟩
theorem take_spec {b : List D} {many : Int} (hb : Bag b) (hm : 0 < many) (hm2 : many.natAbs.log2 < 9000) : ∃ v b', v__law_take b (.int many) = .ok (.int v, b') ∧ Bag b' ∧ 0 ≤ v ∧ v < many := by
  obtain ⟨m, s, p, ns, rfl, h0, h1, h2, hl⟩ := hb
  obtain ⟨ys, e2, hy⟩ := cut_ints ns (some p) none
  obtain ⟨c, e3⟩ : ∃ c : Int, idxV (.lst (ys.map D.int ++ [.int 0])) (.int 0) = .ok (.int c) := by
    cases ys with
    | nil => exact ⟨0, il0 _ _⟩
    | cons x xs => exact ⟨x, il0 _ _⟩
  have p18 : powV (.int 10) (.int 18) = .ok (.int 1000000000000000000) := by
    unfold powV lift2
    have h : powS (.fz (.int 10)) (.fz (.int 18)) = .ok (.fz (.int 1000000000000000000)) := rfl
    rw [h]
    rfl
  have r1 : ∀ i : Int, mulOk i 48271 = true := fun i => mulOk_r (by decide) (by decide)
  have r4 : ∀ i : Int, mulOk 7919 i = true := fun i => mulOk_l (by decide) (by decide)
  have sm : ∀ i : Int, 0 ≤ i % 2147483647 ∧ i % 2147483647 < 2147483647 := fun i => by omega
  have ec : catV (ys.map D.int) (.lst [.int 0]) = .ok (ys.map D.int ++ [.int 0]) := cat_ok (by rw [List.length_map]; simp; omega)
  unfold v__law_take bagL
  simp only [il0, eqI, okb]
  by_cases hz : m = 0
  · simp only [hz, decide_true, if_true, il3, il2, il1, intD_int, sliV_lst, e2, addV_lst, ec, e3, get2, st2, p18, ge_intV, okb]
    by_cases hc : c < 1000000000000000000
    · simp only [hc, decide_true, Bool.not_true, Bool.false_eq_true, if_false, il1, il2, mulI (r1 _), mulI (r4 _), intI, modI (show (0 : Int) < 2147483647 by omega), addI, st1, okb]
      exact take_rest (ns := ns) hm hm2 (by omega) (sm _).1 (sm _).2 hl
    · simp only [hc, decide_false, Bool.not_false, if_true, st0, il1, il2, mulI (r1 _), mulI (r4 _), intI, modI (show (0 : Int) < 2147483647 by omega), addI, st1, okb]
      exact take_rest (ns := ns) hm hm2 (by omega) (sm _).1 (sm _).2 hl
  · simp only [hz, decide_false, Bool.false_eq_true, if_false, okb]
    exact take_rest (ns := ns) hm hm2 h0 h1 h2 hl
theorem log_small {n : Nat} (h : n ≤ 1000000) : ((n : Int).natAbs).log2 < 9000 := by
  rw [Int.natAbs_natCast]
  by_cases h0 : n = 0
  · subst h0; decide
  · exact (Nat.log2_lt h0).mpr (Nat.lt_of_le_of_lt h (by decide +kernel))
/-- a number below n -/
theorem take_nat {b : List D} {n : Nat} {k : Int} (hb : Bag b) (hk : k = n) (h0 : 0 < n) (h1 : n ≤ 1000000) : ∃ v b', v__law_take b (.int k) = .ok (nD v, b') ∧ Bag b' ∧ v < n := by
  subst hk
  obtain ⟨v, b', e, hb', v0, v1⟩ := take_spec (many := n) hb (by omega) (log_small h1)
  refine ⟨v.toNat, b', ?_, hb', by omega⟩
  have hv : ((v.toNat : Nat) : Int) = v := Int.toNat_of_nonneg v0
  unfold nD
  rw [e, hv]
theorem some_lst {b : List D} {ds : List D} (hb : Bag b) (h0 : ds ≠ []) (h1 : ds.length ≤ 1000000) : ∃ d b', v__law_some b (.lst ds) = .ok (d, b') ∧ Bag b' ∧ d ∈ ds := by
  have hp : 0 < ds.length := List.length_pos_iff.mpr h0
  obtain ⟨v, b', e, hb', hv⟩ := take_nat (n := ds.length) hb rfl hp h1
  unfold v__law_some
  rw [len_lstV, okb, e, okb, ix_lst (List.getElem?_eq_getElem hv), okb]
  exact ⟨_, _, rfl, hb', List.getElem_mem hv⟩
theorem some_tup {b : List D} {ds : List D} (hb : Bag b) (h0 : ds ≠ []) (h1 : ds.length ≤ 1000000) : ∃ d b', v__law_some b (.tup ds) = .ok (d, b') ∧ Bag b' ∧ d ∈ ds := by
  have hp : 0 < ds.length := List.length_pos_iff.mpr h0
  obtain ⟨v, b', e, hb', hv⟩ := take_nat (n := ds.length) hb rfl hp h1
  unfold v__law_some
  rw [len_tupV, okb, e, okb, ix_tup (List.getElem?_eq_getElem hv), okb]
  exact ⟨_, _, rfl, hb', List.getElem_mem hv⟩
theorem cut_63 {ns : List Int} (hl : ns.length ≤ 63) : Pf.cutD (ns.map D.int) none (some 63) = ns.map D.int := by
  unfold Pf.cutD HT.sIx
  rw [List.length_map]
  simp only [Int.reduceLT, if_false]
  rw [show min (Int.toNat 63) ns.length - 0 = ns.length by simp; omega, List.drop_zero, List.take_of_length_le (by simp)]
theorem bag_spec {ns : List Int} (hl : ns.length ≤ 63) : ∃ b, v__law_bag (.lst (ns.map D.int)) = .ok b ∧ Bag b := by
  unfold v__law_bag
  rw [sliV_lst, cut_63 hl, okb, itemsV_lst, okb, mapV_map (fun i => D.int (if i < 0 then -i else i)) (fun i _ => by unfold vc__law_bag_1; rw [absI, okb]) (by omega), okb]
  refine ⟨_, rfl, 0, 1234567891, 0, ns.map fun i => if i < 0 then -i else i, ?_, by decide, by decide, by decide, by rw [List.length_map]; exact hl⟩
  unfold bagL
  rw [List.map_map]
  rfl
end Lw

/-! VT: what is told alike. -/
namespace Pf
open PySem PySem.Spec PyProof.Rows L2
mutual
/-- can be shown -/
def D.okS : D → Bool
  | .non => true
  | .bl _ => true
  | .int i => decide (i.natAbs.log2 < 1920)
  | .str x => x.cps.toList.all fun c => decide (c < 16 ^ 8)
  | .tup xs => D.okSs xs
  | .lst xs => D.okSs xs
def D.okSs : List D → Bool
  | [] => true
  | x :: xs => D.okS x && D.okSs xs
end
mutual
/-- no shorter than what is shown -/
def D.wid : D → Nat
  | .non => 4
  | .bl _ => 5
  | .int _ => 1921
  | .str x => 10 * x.length + 2
  | .tup xs => D.wids xs + 3
  | .lst xs => D.wids xs + 2
def D.wids : List D → Nat
  | [] => 0
  | x :: xs => D.wid x + 2 + D.wids xs
end
theorem textFrom_le : ∀ (ts : List Str) (k : Nat) (acc : Str), (textFrom k acc ts).length ≤ acc.length + piled ts
  | [], k, acc => by show acc.length ≤ _; omega
  | t :: r, k, acc => by
    have h := textFrom_le r (k + 1) (acc ++ (if k > 0 then ", " else "" : String) ++ t)
    show (textFrom (k + 1) (acc ++ (if k > 0 then ", " else "" : String) ++ t) r).length ≤ _
    have e : (acc ++ (if k > 0 then ", " else "" : String) ++ t).length = acc.length + (if k > 0 then 2 else 0) + t.length := by
      rw [strLen_append, strLen_append]
      by_cases hk : k > 0
      · rw [if_pos hk, if_pos hk]
        congr 1
      · rw [if_neg hk, if_neg hk]
        congr 1
    have e2 : (if k > 0 then 2 else 0 : Nat) ≤ 2 := by
      by_cases hk : k > 0
      · rw [if_pos hk]; exact Nat.le_refl _
      · rw [if_neg hk]; exact Nat.zero_le _
    rw [piled_cons]
    omega
theorem listText_le (ts : List Str) : (listText ts).length ≤ piled ts + 2 := by
  have h := textFrom_le ts 0 "["
  have e : (listText ts).length = (textFrom 0 "[" ts).length + 1 := by
    unfold listText
    rw [strLen_append]
    rfl
  have e2 : ("[" : Str).length = 1 := by decide +kernel
  omega
theorem tupleText_le (ts : List Str) : (tupleText ts).length ≤ piled ts + 3 := by
  have e : (tupleText ts).length ≤ 1 + (Str.join ", " ts).length + 2 := by
    unfold tupleText
    rw [strLen_append, strLen_append]
    have e1 : ("(" : Str).length = 1 := rfl
    have e3 : (",)" : Str).length = 2 := rfl
    have e4 : (")" : Str).length = 1 := rfl
    by_cases hk : (ts.length == 1) = true
    · rw [if_pos hk, e1, e3]; omega
    · rw [if_neg hk, e1, e4]; omega
  cases ts with
  | nil =>
    have : (Str.join ", " []).length = 0 := by decide +kernel
    omega
  | cons t ts =>
    have := join_length_add (t :: ts) (by simp)
    omega
mutual
theorem D.shown_le : ∀ d : D, d.okS = true → d.py.shown.length ≤ d.wid
  | .non, _ => by
    simp only [D.py, PyData.shown, D.wid]
    decide +kernel
  | .bl b, _ => by
    simp only [D.py, PyData.shown, D.wid]
    cases b <;> decide +kernel
  | .int i, h => by
    simp only [D.py, PyData.shown, D.wid]
    simp only [D.okS, decide_eq_true_eq] at h
    exact PyProof.Rows.int_text_len_1921 h
  | .str x, h => by
    simp only [D.py, PyData.shown, D.wid]
    simp only [D.okS, List.all_eq_true, decide_eq_true_eq] at h
    exact PySem.StrLaws.reprText_len x h
  | .tup xs, h => by
    simp only [D.py, PyData.shown, D.wid]
    simp only [D.okS] at h
    have := D.showns_le xs h
    have := tupleText_le (PyData.shownAll (D.pys xs))
    omega
  | .lst xs, h => by
    simp only [D.py, PyData.shown, D.wid]
    simp only [D.okS] at h
    have := D.showns_le xs h
    have := listText_le (PyData.shownAll (D.pys xs))
    omega
theorem D.showns_le : ∀ ds : List D, D.okSs ds = true → piled (PyData.shownAll (D.pys ds)) ≤ D.wids ds
  | [], _ => by simp only [D.pys, PyData.shownAll, D.wids]; exact Nat.le_refl _
  | x :: xs, h => by
    simp only [D.okSs, Bool.and_eq_true] at h
    simp only [D.pys, PyData.shownAll, D.wids, piled_cons]
    have := D.shown_le x h.1
    have := D.showns_le xs h.2
    omega
end
mutual
theorem D.showable : ∀ d : D, d.okS = true → d.py.showable = true
  | .non, _ => by simp only [D.py, PyData.showable]
  | .bl b, _ => by simp only [D.py, PyData.showable]
  | .int i, h => by
    simp only [D.py, PyData.showable]
    simpa only [D.okS] using h
  | .str x, _ => by simp only [D.py, PyData.showable]
  | .tup xs, h => by
    simp only [D.py, PyData.showable]
    exact D.showables xs (by simpa only [D.okS] using h)
  | .lst xs, h => by
    simp only [D.py, PyData.showable]
    exact D.showables xs (by simpa only [D.okS] using h)
theorem D.showables : ∀ ds : List D, D.okSs ds = true → PyData.showableAll (D.pys ds) = true
  | [], _ => by simp only [D.pys, PyData.showableAll]
  | x :: xs, h => by
    simp only [D.okSs, Bool.and_eq_true] at h
    simp only [D.pys, PyData.showableAll, D.showable x h.1, D.showables xs h.2, Bool.and_self]
end
/-- told alike: shown, of a bounded depth -/
structure Told (d : D) : Prop where
  ok : d.okS = true
  wid : d.wid ≤ 10000000
  dep : d.dep ≤ 60
theorem reprV_ok (d : D) (h : Told d) : reprV d = .ok (.str d.py.shown) := by
  unfold reprV lift1 reprS
  dsimp only
  rw [er_fz, D.showable d h.ok, decide_eq_true (Nat.le_trans (D.shown_le d h.ok) (Nat.le_trans h.wid (by decide))), decide_eq_true h.dep]
  rfl
theorem eqV_self (d : D) (h : d.dep ≤ 60) : eqV d d = .ok true := by
  unfold eqV depOk
  rw [decide_eq_true (by show min d.dep d.dep ≤ 60; omega), eqv_self]
  rfl
theorem neV_self (d : D) (h : d.dep ≤ 60) : neV d d = .ok false := by
  unfold neV depOk
  rw [decide_eq_true (by show min d.dep d.dep ≤ 60; omega), eqv_self]
  rfl
/-! numbers are told -/
theorem depAll_le : ∀ (xs : List PyData) (n : Nat), (∀ x ∈ xs, x.depth ≤ n) → PyData.depthAll xs ≤ n
  | [], n, _ => by simp [PyData.depthAll]
  | x :: xs, n, h => by
    have h1 := h x List.mem_cons_self
    have h2 := depAll_le xs n fun y hy => h y (List.mem_cons_of_mem _ hy)
    simp only [PyData.depthAll]
    omega
theorem dep_tup {ds : List D} {n : Nat} (h : ∀ d ∈ ds, d.dep ≤ n) : (D.tup ds).dep ≤ n + 1 := by
  unfold D.dep at *
  rw [D.py, PyData.depth, D.pys_map]
  have := depAll_le (ds.map D.py) n fun x hx => by
    obtain ⟨d, hd, rfl⟩ := List.mem_map.mp hx
    exact h d hd
  omega
theorem dep_lst {ds : List D} {n : Nat} (h : ∀ d ∈ ds, d.dep ≤ n) : (D.lst ds).dep ≤ n + 1 := by
  unfold D.dep at *
  rw [D.py, PyData.depth, D.pys_map]
  have := depAll_le (ds.map D.py) n fun x hx => by
    obtain ⟨d, hd, rfl⟩ := List.mem_map.mp hx
    exact h d hd
  omega
theorem okSs_all {ds : List D} (h : ∀ d ∈ ds, d.okS = true) : D.okSs ds = true := by
  induction ds with
  | nil => rfl
  | cons d ds ih => rw [D.okSs, h d List.mem_cons_self, ih fun x hx => h x (List.mem_cons_of_mem _ hx)]; rfl
theorem wids_le {ds : List D} {n : Nat} (h : ∀ d ∈ ds, d.wid ≤ n) : D.wids ds ≤ ds.length * (n + 2) := by
  induction ds with
  | nil => rw [D.wids]; exact Nat.zero_le _
  | cons d ds ih =>
    rw [D.wids, List.length_cons, Nat.succ_mul]
    have h1 := h d List.mem_cons_self
    have h2 := ih fun x hx => h x (List.mem_cons_of_mem _ hx)
    omega
/-- shown, of width w and depth n at most -/
structure Tw (w n : Nat) (d : D) : Prop where
  ok : d.okS = true
  wid : d.wid ≤ w
  dep : d.dep ≤ n
theorem Tw.told {w n : Nat} {d : D} (h : Tw w n d) (h1 : w ≤ 10000000) (h2 : n ≤ 60) : Told d := ⟨h.ok, by have := h.wid; omega, by have := h.dep; omega⟩
theorem Tw.up {w n w' n' : Nat} {d : D} (h : Tw w n d) (h1 : w ≤ w') (h2 : n ≤ n') : Tw w' n' d := ⟨h.ok, Nat.le_trans h.wid h1, Nat.le_trans h.dep h2⟩
theorem tw_non : Tw 4 0 .non := ⟨rfl, Nat.le_refl _, by rw [dep_non]; exact Nat.le_refl _⟩
theorem tw_bl (b : Bool) : Tw 5 0 (.bl b) := ⟨rfl, Nat.le_refl _, by rw [dep_bl]; exact Nat.le_refl _⟩
theorem tw_int {i : Int} (h : i.natAbs < 2 ^ 1900) : Tw 1921 0 (.int i) := by
  refine ⟨?_, Nat.le_refl _, by rw [dep_int]; exact Nat.le_refl _⟩
  unfold D.okS
  refine decide_eq_true ?_
  by_cases h0 : i.natAbs = 0
  · rw [h0]; decide
  · exact Nat.lt_of_lt_of_le ((Nat.log2_lt h0).mpr h) (by decide)
theorem tw_nat {v : Nat} (h : v ≤ 1000000) : Tw 1921 0 (nD v) := tw_int (by
  show (v : Int).natAbs < _
  rw [Int.natAbs_natCast]
  exact Nat.lt_of_le_of_lt h (by decide +kernel))
theorem tw_tup {ds : List D} {w n : Nat} (h : ∀ d ∈ ds, Tw w n d) : Tw (ds.length * (w + 2) + 3) (n + 1) (.tup ds) := by
  refine ⟨?_, ?_, dep_tup fun d hd => (h d hd).dep⟩
  · rw [D.okS]; exact okSs_all fun d hd => (h d hd).ok
  · rw [D.wid]; have := wids_le fun d hd => (h d hd).wid; omega
theorem tw_lst {ds : List D} {w n : Nat} (h : ∀ d ∈ ds, Tw w n d) : Tw (ds.length * (w + 2) + 2) (n + 1) (.lst ds) := by
  refine ⟨?_, ?_, dep_lst fun d hd => (h d hd).dep⟩
  · rw [D.okS]; exact okSs_all fun d hd => (h d hd).ok
  · rw [D.wid]; have := wids_le fun d hd => (h d hd).wid; omega
theorem tw_nats {l : List Nat} {k : Nat} (h : ∀ v ∈ l, v ≤ 1000000) (hk : l.length ≤ k) : Tw (k * 1923 + 3) 1 (.tup (l.map nD)) := by
  have := tw_tup (ds := l.map nD) (w := 1921) (n := 0) fun d hd => by
    obtain ⟨v, hv, rfl⟩ := List.mem_map.mp hd
    exact tw_nat (h v hv)
  rw [List.length_map] at this
  exact this.up (by have := Nat.mul_le_mul_right 1923 hk; omega) (Nat.le_refl _)
end Pf
namespace Lw
open PySem Pf
theorem alike_same (d : D) (h : Told d) : v__law_alike d d = .ok (.bl true) := by
  unfold v__law_alike
  rw [eqV_self d h.dep, okb, if_pos rfl, reprV_ok d h, okb, okb, eqV_self _ (by rw [dep_str]; decide), okb, okb]
end Lw

/-! VD: dungeons: what they are, how they are drawn. -/
namespace Lw
open PySem Pf
inductive Way where
  | non | opn | lck | bar
  deriving DecidableEq, Inhabited
def Way.d : Way → D
  | .non => .non
  | .opn => .str "open"
  | .lck => .str "lock"
  | .bar => .str "bar"
structure Room where
  par : Option Nat
  way : Way
  many : Nat
  deriving Inhabited
def roomD (r : Room) : D := .tup [oD r.par, r.way.d, nD r.many]
def dunD (rs : List Room) (k : Nat) : D := .tup [.tup (rs.map roomD), nD k]
def parOf (rs : List Room) (v : Nat) : Option Nat := (rs[v]?).bind fun r => r.par
def wayOf (rs : List Room) (v : Nat) : Way := match rs[v]? with
  | some r => r.way
  | none => .non
def manyOf (rs : List Room) (v : Nat) : Nat := match rs[v]? with
  | some r => r.many
  | none => 0
def isBarred (rs : List Room) : Bool := rs.any fun r => decide (r.way = .bar)
def chests (rs : List Room) : Nat := (rs.map fun r => r.many).sum
/-- rooms, each but the first one hung on one ahead of it -/
structure Rms (rs : List Room) : Prop where
  pos : 0 < rs.length
  first : ∀ r, rs[0]? = some r → r.par = none ∧ r.way = .non
  other : ∀ v r, rs[v]? = some r → 0 < v → ∃ p, r.par = some p ∧ p < v ∧ r.way ≠ .non
  many : ∀ r ∈ rs, r.many ≤ 2
structure Dun (rs : List Room) (k : Nat) : Prop extends Rms rs where
  len : rs.length ≤ 11
  keys : k ≤ 6
  fits : k + (if isBarred rs = true then 1 else 0) ≤ chests rs
theorem Rms.par0 {rs : List Room} (g : Rms rs) : parOf rs 0 = none := by
  have hpos := g.pos
  have h : rs[0]? = some rs[0] := List.getElem?_eq_getElem hpos
  unfold parOf
  rw [h]
  exact (g.first _ h).1
theorem Rms.way0 {rs : List Room} (g : Rms rs) : wayOf rs 0 = .non := by
  have hpos := g.pos
  have h : rs[0]? = some rs[0] := List.getElem?_eq_getElem hpos
  unfold wayOf
  rw [h]
  exact (g.first _ h).2
theorem Rms.par {rs : List Room} (g : Rms rs) {v : Nat} (hv : v < rs.length) (h0 : 0 < v) : ∃ p, parOf rs v = some p ∧ p < v ∧ wayOf rs v ≠ .non := by
  have h : rs[v]? = some rs[v] := List.getElem?_eq_getElem hv
  obtain ⟨p, h1, h2, h3⟩ := g.other v _ h h0
  exact ⟨p, by unfold parOf; rw [h]; exact h1, h2, by unfold wayOf; rw [h]; exact h3⟩
theorem Rms.par_lt {rs : List Room} (g : Rms rs) {v p : Nat} (h : parOf rs v = some p) : p < v ∧ v < rs.length := by
  unfold parOf at h
  by_cases hv : v < rs.length
  · rw [List.getElem?_eq_getElem hv] at h
    by_cases h0 : v = 0
    · subst h0
      have := (g.first _ (List.getElem?_eq_getElem hv)).1
      have h : rs[0].par = some p := h
      rw [this] at h; cases h
    · obtain ⟨q, h1, h2, _⟩ := g.other v _ (List.getElem?_eq_getElem hv) (by omega)
      have h : rs[v].par = some p := h
      rw [h1] at h; cases h
      exact ⟨h2, hv⟩
  · rw [List.getElem?_eq_none (by omega)] at h; cases h
theorem isBarred_iff {rs : List Room} : isBarred rs = true ↔ ∃ v, v < rs.length ∧ wayOf rs v = .bar := by
  unfold isBarred
  rw [List.any_eq_true]
  constructor
  · rintro ⟨r, hr, e⟩
    obtain ⟨v, hv, rfl⟩ := List.mem_iff_getElem.mp hr
    refine ⟨v, hv, ?_⟩
    unfold wayOf
    rw [List.getElem?_eq_getElem hv]
    exact of_decide_eq_true e
  · rintro ⟨v, hv, e⟩
    refine ⟨rs[v], List.getElem_mem hv, decide_eq_true ?_⟩
    unfold wayOf at e
    rw [List.getElem?_eq_getElem hv] at e
    exact e
/-! ### read -/
/-- the room at v -/
def rD (rs : List Room) (v : Nat) : D := .tup [oD (parOf rs v), (wayOf rs v).d, nD (manyOf rs v)]
theorem dun0 (rs : List Room) (k : Nat) : idxV (dunD rs k) (.int 0) = .ok (.tup (rs.map roomD)) := it0 _ _
theorem dun1 (rs : List Room) (k : Nat) : idxV (dunD rs k) (.int 1) = .ok (nD k) := it1 _ _ _
theorem room_eq {rs : List Room} {v : Nat} (hv : v < rs.length) : roomD rs[v] = rD rs v := by
  unfold roomD rD parOf wayOf manyOf
  rw [List.getElem?_eq_getElem hv]
  rfl
theorem ix_room {rs : List Room} {v : Nat} (hv : v < rs.length) : idxV (.tup (rs.map roomD)) (nD v) = .ok (rD rs v) := by
  rw [← room_eq hv]
  exact ix_tup (by rw [List.getElem?_map, List.getElem?_eq_getElem hv]; rfl)
theorem rD0 (rs : List Room) (v : Nat) : idxV (rD rs v) (.int 0) = .ok (oD (parOf rs v)) := it0 _ _
theorem rD1 (rs : List Room) (v : Nat) : idxV (rD rs v) (.int 1) = .ok (wayOf rs v).d := it1 _ _ _
theorem rD2 (rs : List Room) (v : Nat) : idxV (rD rs v) (.int 2) = .ok (nD (manyOf rs v)) := it2 _ _ _ _
theorem rDu (rs : List Room) (v : Nat) : un3 (rD rs v) = .ok (oD (parOf rs v), (wayOf rs v).d, nD (manyOf rs v)) := (rfl)
theorem rooms_eq (rs : List Room) : rs.map roomD = (List.range rs.length).map (rD rs) := by
  apply List.ext_getElem
  · simp
  · intro i h1 h2
    have hi : i < rs.length := by simpa using h1
    rw [List.getElem_map, List.getElem_map, List.getElem_range, room_eq hi]
theorem len_rooms (rs : List Room) : lenV (.tup (rs.map roomD)) = .ok (nD rs.length) := by rw [len_tupV, List.length_map]
theorem items_rooms (rs : List Room) : itemsV (.tup (rs.map roomD)) = .ok ((List.range rs.length).map (rD rs)) := by rw [itemsV_tup, rooms_eq]
theorem enum_rooms (rs : List Room) : datV (enumL 0) (.tup (rs.map roomD)) = .ok ((List.range rs.length).map fun v => .tup [nD v, rD rs v]) := by
  rw [dat_tup, rooms_eq, enumL_map]
  congr 1
  apply List.ext_getElem
  · simp
  · intro i h1 h2
    have hi : i < rs.length := by simpa using h2
    simp
theorem way_bar (w : Way) : eqV w.d (.str "bar") = .ok (decide (w = .bar)) := by cases w <;> rfl
theorem way_lck (w : Way) : eqV w.d (.str "lock") = .ok (decide (w = .lck)) := by cases w <;> rfl
theorem way_opn (w : Way) : eqV w.d (.str "open") = .ok (decide (w = .opn)) := by cases w <;> rfl
theorem way_nbar (w : Way) : neV w.d (.str "bar") = .ok (!decide (w = .bar)) := by cases w <;> rfl
theorem way_nlck (w : Way) : neV w.d (.str "lock") = .ok (!decide (w = .lck)) := by cases w <;> rfl
theorem way_nopn (w : Way) : neV w.d (.str "open") = .ok (!decide (w = .opn)) := by cases w <;> rfl
/-! ### drawn -/
def vb__law_dungeon_1 (has_bars : D) (d : D) (s : List D × List D) : Res (List D × List D) :=
  (truV has_bars).bind fun b_8 => (if b_8 = true then Res.ok (D.str "bar") else Res.ok (D.str "lock")).bind fun x_9 => (v__law_some s.1 (D.lst [(D.str "open"), (D.str "lock"), (D.str "lock"), x_9])).bind fun x_10 => 
  (subV d (D.int 1)).bind fun x_11 => (v__law_take x_10.2 d).bind fun x_12 => (v__law_some x_12.2 (D.lst [x_11, x_12.1])).bind fun x_13 => (v__law_some x_13.2 (D.lst [(D.int 1), (D.int 0), (D.int 1), (D.int 1), (D.int 2)])).bind fun x_14 => (appV s.2 (D.tup [x_13.1, x_10.1, x_14.1])).bind fun rooms_15 => 
  Res.ok (x_14.2, rooms_15)
def vc__law_dungeon_2 (d : D) : Res (Option D) :=
  (idxV d (D.int 1)).bind fun x_17 => (eqV x_17 (D.str "lock")).bind fun b_18 => if b_18 = true then Res.ok (some (D.int 1)) else Res.ok none
def vc__law_dungeon_3 (d : D) : Res (Option D) :=
  (idxV d (D.int 1)).bind fun x_21 => (eqV x_21 (D.str "bar")).bind fun b_22 => if b_22 = true then Res.ok (some (D.int 1)) else Res.ok none
def vc__law_dungeon_4 (d : D) : Res (Option D) :=
  (idxV d (D.int 2)).bind fun x_26 => Res.ok (some x_26)
def v__law_dungeon (bag : List D) (most : D) : Res (D × List D) :=
  (v__law_some bag (D.lst [(D.int 1), (D.int 0), (D.int 1), (D.int 2)])).bind fun x_1 => (Res.ok ([(D.tup [D.non, D.non, x_1.1])])).bind fun rooms_2 => (v__law_take x_1.2 (D.int 2)).bind fun x_3 => (eqV x_3.1 (D.int 0)).bind fun b_4 => 
  (v__law_take x_3.2 most).bind fun x_6 => (addV (D.int 1) x_6.1).bind fun x_7 => (rng2V (D.int 1) x_7).bind fun l_5 => (foldV (vb__law_dungeon_1 (D.bl b_4)) l_5 (x_6.2, rooms_2)).bind fun s_16 => 
  (mapV (vc__law_dungeon_2) s_16.2).bind fun l_19 => (lenV (D.lst l_19)).bind fun x_20 => 
  (mapV (vc__law_dungeon_3) s_16.2).bind fun l_23 => (neV (D.lst l_23) (D.lst [])).bind fun b_24 => (intV (D.bl b_24)).bind fun x_25 => 
  (mapV (vc__law_dungeon_4) s_16.2).bind fun l_27 => (sumV (D.lst l_27)).bind fun x_28 => 
  (ltV x_28 x_25).bind fun b_29 => ((if b_29 = true then (catV ([(D.tup [D.non, D.non, (D.int 1)])]) (D.lst (cutD s_16.2 (some 1) none))).bind fun x_30 => (Res.ok x_30).bind fun rooms_31 => 
  Res.ok (rooms_31, (D.int 1)) else Res.ok (s_16.2, x_28) : Res (List D × D))).bind fun s_32 => 
  (addV x_20 (D.int 1)).bind fun x_33 => (subV x_20 (D.int 1)).bind fun x_34 => (max2V (D.int 0) x_34).bind fun x_35 => (v__law_some s_16.1 (D.lst [x_20, x_20, x_20, x_33, x_35])).bind fun x_36 => 
  (tupV (D.lst s_32.1)).bind fun x_37 => (subV s_32.2 x_25).bind fun x_38 => (min3V x_36.1 x_38 (D.int 6)).bind fun x_39 => (max2V (D.int 0) x_39).bind fun x_40 => Res.ok ((D.tup [x_37, x_40]), x_36.2)
theorem mem4 {d a b c e : D} (h : d ∈ [a, b, c, e]) : d = a ∨ d = b ∨ d = c ∨ d = e := by simpa using h
theorem count_ways {rs : List Room} {f : D → Res (Option D)} {w : Way} (hf : ∀ r, f (roomD r) = .ok (if decide (r.way = w) = true then some (.int 1) else none)) (hl : rs.length ≤ 1000000) : mapV f (rs.map roomD) = .ok ((rs.filter fun r => decide (r.way = w)).map fun _ => .int 1) :=
  mapV_if (fun r => decide (r.way = w)) (fun _ => .int 1) (fun r _ => hf r) hl
theorem Rms.snoc {rs : List Room} (g : Rms rs) {r : Room} {p : Nat} (hp : r.par = some p) (hl : p < rs.length) (hw : r.way ≠ .non) (hm : r.many ≤ 2) : Rms (rs ++ [r]) := by
  have hpos := g.pos
  refine ⟨by rw [List.length_append]; omega, fun r0 h => ?_, fun v r0 h h0 => ?_, fun r0 h => ?_⟩
  · rw [List.getElem?_append_left hpos] at h
    exact g.first r0 h
  · by_cases hv : v < rs.length
    · rw [List.getElem?_append_left hv] at h
      exact g.other v r0 h h0
    · rw [List.getElem?_append_right (by omega)] at h
      have hz : v - rs.length = 0 := by
        have := (List.getElem?_eq_some_iff.mp h).1
        simp at this
        omega
      rw [hz] at h
      have h : r = r0 := by simpa using h
      subst h
      exact ⟨p, hp, by omega, hw⟩
  · rcases List.mem_append.mp h with h | h
    · exact g.many r0 h
    · have : r0 = r := by simpa using h
      subst this; exact hm
theorem dungeon_loop {hb : Bool} {m : Nat} (hm : m ≤ 20) {b : List D} {r0 : Room} (hB : Bag b) (g0 : Rms [r0]) : ∃ b' rs, foldV (vb__law_dungeon_1 (.bl hb)) ((List.range m).map fun (i : Nat) => D.int (1 + (i : Int))) (b, [roomD r0]) = .ok (b', rs.map roomD) ∧ Bag b' ∧ Rms rs ∧ rs.length = m + 1 := by
  obtain ⟨s', e, rs, hB', rfl2, g, hl⟩ := foldV_ix (fun k (s : List D × List D) => ∃ rs : List Room, Bag s.1 ∧ s.2 = rs.map roomD ∧ Rms rs ∧ rs.length = k + 1) (f := vb__law_dungeon_1 (.bl hb)) (ds := (List.range m).map fun (i : Nat) => D.int (1 + (i : Int))) (k := 0) (fun i d s hd hP => by
    obtain ⟨rs, hB, e2, g, hl⟩ := hP
    obtain ⟨bg, rl⟩ := s
    dsimp only at hB e2 hl
    subst e2
    have hi : i < m := by
      have := (List.getElem?_eq_some_iff.mp hd).1
      simpa using this
    rw [List.getElem?_map, List.getElem?_range hi] at hd
    cases hd
    obtain ⟨w, b1, e1, hB1, hw⟩ : ∃ (w : Way) (b1 : List D), v__law_some bg (.lst [.str "open", .str "lock", .str "lock", (if hb = true then .str "bar" else .str "lock")]) = .ok (w.d, b1) ∧ Bag b1 ∧ w ≠ .non := by
      obtain ⟨d, b1, e1, hB1, hd⟩ := some_lst (ds := [.str "open", .str "lock", .str "lock", (if hb = true then .str "bar" else .str "lock")]) hB (by simp) (by simp)
      rcases mem4 hd with z | z | z | z
      · exact ⟨.opn, b1, by rw [e1, z]; rfl, hB1, by decide⟩
      · exact ⟨.lck, b1, by rw [e1, z]; rfl, hB1, by decide⟩
      · exact ⟨.lck, b1, by rw [e1, z]; rfl, hB1, by decide⟩
      · cases hb with
        | true => exact ⟨.bar, b1, by rw [e1, z]; rfl, hB1, by decide⟩
        | false => exact ⟨.lck, b1, by rw [e1, z]; rfl, hB1, by decide⟩
    obtain ⟨v2, b2, e2, hB2, hv2⟩ := take_nat (n := i + 1) (k := 1 + (i : Int)) hB1 (by omega) (by omega) (by omega)
    obtain ⟨p, b3, e3, hB3, hp⟩ : ∃ (p : Nat) (b3 : List D), v__law_some b2 (.lst [.int (1 + (i : Int) - 1), nD v2]) = .ok (nD p, b3) ∧ Bag b3 ∧ p < i + 1 := by
      obtain ⟨d, b3, e3, hB3, hd⟩ := some_lst (ds := [.int (1 + (i : Int) - 1), nD v2]) hB2 (by simp) (by simp)
      have hd : d = .int (1 + (i : Int) - 1) ∨ d = nD v2 := by simpa using hd
      rcases hd with z | z
      · exact ⟨i, b3, by rw [e3, z]; congr 2; show D.int _ = D.int _; congr 1; omega, hB3, by omega⟩
      · exact ⟨v2, b3, by rw [e3, z], hB3, hv2⟩
    obtain ⟨c, b4, e4, hB4, hc⟩ : ∃ (c : Nat) (b4 : List D), v__law_some b3 (.lst [.int 1, .int 0, .int 1, .int 1, .int 2]) = .ok (nD c, b4) ∧ Bag b4 ∧ c ≤ 2 := by
      obtain ⟨d, b4, e4, hB4, hd⟩ := some_lst (ds := [.int 1, .int 0, .int 1, .int 1, .int 2]) hB3 (by simp) (by simp)
      have hd : d = .int 1 ∨ d = .int 0 ∨ d = .int 2 := by
        simp only [List.mem_cons, List.not_mem_nil, or_false] at hd
        rcases hd with z | z | z | z | z <;> simp [z]
      rcases hd with z | z | z
      · exact ⟨1, b4, by rw [e4, z]; rfl, hB4, by omega⟩
      · exact ⟨0, b4, by rw [e4, z]; rfl, hB4, by omega⟩
      · exact ⟨2, b4, by rw [e4, z]; rfl, hB4, by omega⟩
    refine ⟨(b4, (rs ++ [(⟨some p, w, c⟩ : Room)]).map roomD), ?_, rs ++ [⟨some p, w, c⟩], hB4, rfl, g.snoc rfl (by omega) hw hc, by rw [List.length_append, hl]; simp⟩
    have ea : appV (rs.map roomD) (.tup [nD p, w.d, nD c]) = .ok ((rs ++ [(⟨some p, w, c⟩ : Room)]).map roomD) := by
      rw [app_ok (by rw [List.length_map]; omega), List.map_append]
      rfl
    unfold vb__law_dungeon_1
    have et : (if hb = true then Res.ok (D.str "bar") else Res.ok (D.str "lock")) = Res.ok (if hb = true then .str "bar" else .str "lock") := by cases hb <;> rfl
    simp only [truV_bl, okb, et, e1, subI, e2, e3, e4, ea]) (b, [roomD r0]) ⟨[r0], hB, rfl, g0, rfl⟩
  obtain ⟨b', rl⟩ := s'
  dsimp only at hB' rfl2
  subst rfl2
  refine ⟨b', rs, e, hB', g, ?_⟩
  rw [List.length_map, List.length_range] at hl
  omega
theorem sum_nats (l : List Nat) : sumV (.lst (l.map nD)) = .ok (nD l.sum) := by
  have h := sumI (l.map fun (v : Nat) => (v : Int))
  rw [List.map_map] at h
  have e : ((l.map fun (v : Nat) => (v : Int)).sum) = (l.sum : Int) := by
    induction l with
    | nil => rfl
    | cons a l ih =>
      rw [List.map_cons, List.sum_cons, List.sum_cons, ih (by rw [← List.map_map]; exact sumI _)]
      omega
  rw [e] at h
  exact h
theorem filter_bar (rs : List Room) : (!((rs.filter fun r => decide (r.way = Way.bar)).map fun _ => D.int 1).isEmpty) = isBarred rs := by
  unfold isBarred
  induction rs with
  | nil => rfl
  | cons r rs ih =>
    rw [List.filter_cons, List.any_cons]
    cases h : decide (r.way = Way.bar) with
    | true => simp
    | false => simpa using ih
theorem cut_one (r : Room) (rs : List Room) : Pf.cutD ((r :: rs).map roomD) (some 1) none = rs.map roomD := by
  unfold Pf.cutD HT.sIx
  simp
  exact List.take_of_length_le (by simp)
theorem dungeon_spec {b : List D} {most : Nat} (hB : Bag b) (h1 : 1 ≤ most) (h2 : most ≤ 10) : ∃ rs k b', v__law_dungeon b (nD most) = .ok (dunD rs k, b') ∧ Bag b' ∧ Dun rs k ∧ rs.length ≤ most := by
  obtain ⟨c, b1, e1, hB1, hc⟩ : ∃ (c : Nat) (b1 : List D), v__law_some b (.lst [.int 1, .int 0, .int 1, .int 2]) = .ok (nD c, b1) ∧ Bag b1 ∧ c ≤ 2 := by
    obtain ⟨d, b4, e4, hB4, hd⟩ := some_lst (ds := [.int 1, .int 0, .int 1, .int 2]) hB (by simp) (by simp)
    have hd : d = .int 1 ∨ d = .int 0 ∨ d = .int 2 := by
      simp only [List.mem_cons, List.not_mem_nil, or_false] at hd
      rcases hd with z | z | z | z <;> simp [z]
    rcases hd with z | z | z
    · exact ⟨1, b4, by rw [e4, z]; rfl, hB4, by omega⟩
    · exact ⟨0, b4, by rw [e4, z]; rfl, hB4, by omega⟩
    · exact ⟨2, b4, by rw [e4, z]; rfl, hB4, by omega⟩
  obtain ⟨v2, b2, e2, hB2, hv2⟩ := take_nat (n := 2) (k := 2) hB1 (by omega) (by omega) (by omega)
  obtain ⟨m, b3, e3, hB3, hm⟩ := take_nat (n := most) (k := (most : Int)) hB2 rfl (by omega) (by omega)
  have g0 : Rms [(⟨none, .non, c⟩ : Room)] := ⟨by simp, fun r h => by
    have h : (⟨none, .non, c⟩ : Room) = r := by simpa using h
    subst h; exact ⟨rfl, rfl⟩, fun v r h h0 => by
    have := (List.getElem?_eq_some_iff.mp h).1
    simp at this
    omega, fun r h => by
    have h : r = (⟨none, .non, c⟩ : Room) := by simpa using h
    subst h; exact hc⟩
  obtain ⟨b4, rs, e4, hB4, g, hl⟩ := dungeon_loop (hb := decide (v2 = 0)) (m := m) (by omega) (r0 := ⟨none, .non, c⟩) hB3 g0
  have hr : rng2V (.int 1) (.int (1 + (m : Int))) = .ok ((List.range m).map fun (i : Nat) => D.int (1 + (i : Int))) := by
    rw [rng2_nat (by omega) (by omega) (by omega) (by omega), show (1 + (m : Int) - 1).toNat = m by omega]
  have hl1 : rs.length ≤ 1000000 := by omega
  have c1 : mapV vc__law_dungeon_2 (rs.map roomD) = .ok ((rs.filter fun r => decide (r.way = Way.lck)).map fun _ => D.int 1) := count_ways (fun r => by
    have e : idxV (roomD r) (.int 1) = .ok r.way.d := it1 _ _ _
    unfold vc__law_dungeon_2
    rw [e, okb, way_lck, okb]
    cases decide (r.way = Way.lck) <;> rfl) hl1
  have c2 : mapV vc__law_dungeon_3 (rs.map roomD) = .ok ((rs.filter fun r => decide (r.way = Way.bar)).map fun _ => D.int 1) := count_ways (fun r => by
    have e : idxV (roomD r) (.int 1) = .ok r.way.d := it1 _ _ _
    unfold vc__law_dungeon_3
    rw [e, okb, way_bar, okb]
    cases decide (r.way = Way.bar) <;> rfl) hl1
  have c3 : mapV vc__law_dungeon_4 (rs.map roomD) = .ok ((rs.map fun r => r.many).map nD) := by
    rw [mapV_map (fun r : Room => nD r.many) (fun r _ => by
      have e : idxV (roomD r) (.int 2) = .ok (nD r.many) := it2 _ _ _ _
      unfold vc__law_dungeon_4
      rw [e, okb]) hl1, List.map_map]
    rfl
  have f1 := filter_bar rs
  generalize hlk : ((rs.filter fun r => decide (r.way = Way.lck)).map fun _ => D.int 1) = lk at c1
  generalize hbk : ((rs.filter fun r => decide (r.way = Way.bar)).map fun _ => D.int 1) = bk at c2 f1
  have e5 : eqV (nD v2) (.int 0) = .ok (decide (v2 = 0)) := by
    rw [eqI]
    by_cases h : v2 = 0 <;> simp [h]
  -- the rooms behind the exchange
  obtain ⟨rs', mn, e6, g', hl', hbar, hch, hmn⟩ : ∃ (rs' : List Room) (mn : Nat), (if decide ((chests rs : Int) < (if isBarred rs = true then 1 else 0)) = true then (catV [D.tup [.non, .non, .int 1]] (.lst (Pf.cutD (rs.map roomD) (some 1) none))).bind fun x_30 => (Res.ok x_30).bind fun rooms_31 => Res.ok (rooms_31, D.int 1) else Res.ok (rs.map roomD, nD (chests rs)) : Res (List D × D)) = .ok (rs'.map roomD, nD mn) ∧ Rms rs' ∧ rs'.length = rs.length ∧ isBarred rs' = isBarred rs ∧ mn = chests rs' ∧ (if isBarred rs = true then 1 else 0) ≤ mn := by
    by_cases hlt : (chests rs : Int) < (if isBarred rs = true then 1 else 0)
    · rw [if_pos (decide_eq_true hlt)]
      have hb : isBarred rs = true := by
        by_cases h : isBarred rs = true
        · exact h
        · rw [if_neg h] at hlt; omega
      rw [if_pos hb] at hlt ⊢
      obtain ⟨r0, rest, rfl⟩ : ∃ r0 rest, rs = r0 :: rest := by
        cases rs with
        | nil => simp at hl
        | cons a l => exact ⟨a, l, rfl⟩
      have hf := g.first r0 rfl
      have hsum : r0.many + chests rest = 0 := by
        have : chests (r0 :: rest) = r0.many + chests rest := by unfold chests; rw [List.map_cons, List.sum_cons]
        omega
      refine ⟨⟨none, .non, 1⟩ :: rest, 1, ?_, ⟨by simp, fun r h => by
        have h : (⟨none, .non, 1⟩ : Room) = r := by simpa using h
        subst h; exact ⟨rfl, rfl⟩, fun v r h h0 => ?_, fun r h => ?_⟩, by simp, ?_, ?_, Nat.le_refl _⟩
      · rw [cut_one, cat_ok (by simp at hl ⊢; omega), okb, okb]
        rfl
      · obtain ⟨v, rfl⟩ : ∃ w, v = w + 1 := ⟨v - 1, by omega⟩
        exact g.other (v + 1) r (by simpa using h) h0
      · rcases List.mem_cons.mp h with z | z
        · subst z; decide
        · exact g.many r (List.mem_cons_of_mem _ z)
      · unfold isBarred
        rw [List.any_cons, List.any_cons, hf.2]
      · have hr : chests rest = 0 := by omega
        show 1 = 1 + chests rest
        omega
    · rw [if_neg (by simpa using hlt)]
      refine ⟨rs, chests rs, rfl, g, rfl, rfl, rfl, ?_⟩
      by_cases hb : isBarred rs = true
      · rw [if_pos hb] at hlt ⊢; omega
      · rw [if_neg hb]; omega
  obtain ⟨q, b5, e7, hB5, hq⟩ : ∃ (q : Int) (b5 : List D), v__law_some b4 (.lst [.int lk.length, .int lk.length, .int lk.length, .int (lk.length + 1), .int (max 0 (lk.length - 1))]) = .ok (.int q, b5) ∧ Bag b5 ∧ True := by
    obtain ⟨d, b5, e5, hB5, hd⟩ := some_lst (ds := [.int lk.length, .int lk.length, .int lk.length, .int (lk.length + 1), .int (max 0 (lk.length - 1))]) hB4 (by simp) (by simp)
    simp only [List.mem_cons, List.not_mem_nil, or_false] at hd
    rcases hd with z | z | z | z | z <;> exact ⟨_, b5, by rw [e5, z], hB5, trivial⟩
  have hk6 : (max 0 (min q (min ((mn : Int) - (if isBarred rs = true then 1 else 0)) 6))).toNat ≤ 6 := by
    generalize (if isBarred rs = true then (1 : Int) else 0) = z
    omega
  refine ⟨rs', (max 0 (min q (min ((mn : Int) - (if isBarred rs = true then 1 else 0)) 6))).toNat, b5, ?_, hB5, ⟨g', by omega, hk6, ?_⟩, by omega⟩
  · unfold v__law_dungeon
    have hs : sumV (.lst ((rs.map fun r => r.many).map nD)) = .ok (nD (chests rs)) := sum_nats _
    have hlt2 : ltV (nD (chests rs)) (.int (if isBarred rs = true then 1 else 0)) = .ok (decide ((chests rs : Int) < (if isBarred rs = true then 1 else 0))) := lt_intV _ _
    rw [e1, okb, okb, e2, okb, e5, okb, e3, okb, addI, okb, hr, okb]
    dsimp only
    have e0 : D.tup [.non, .non, nD c] = roomD ⟨none, .non, c⟩ := rfl
    rw [e0, e4, okb]
    dsimp only
    rw [c1, okb, len_lstV, okb, c2, okb, ne_nil, f1, okb, intB, okb, c3, okb, hs, okb, hlt2, okb, e6, okb, addI, okb, subI, okb, maxI, okb, e7, okb, tupL, okb]
    dsimp only
    rw [subI, okb, min3I, okb, maxI, okb]
    unfold dunD nD
    rw [Int.toNat_of_nonneg (Int.le_max_left _ _)]
  · rw [hbar, ← hch]
    cases hb : isBarred rs with
    | true =>
      rw [hb] at hmn
      have hmn : 1 ≤ mn := hmn
      show (max 0 (min q (min ((mn : Int) - 1) 6))).toNat + 1 ≤ mn
      omega
    | false =>
      show (max 0 (min q (min ((mn : Int) - 0) 6))).toNat + 0 ≤ mn
      omega
end Lw

/-! VE: ways, lots, what is rightly in one; what is drawn beside a dungeon. -/
namespace Lw
open PySem Pf
open L2 (ixN atI)
/-! ### numbers in order -/
def lot (n : Nat) (p : Nat → Bool) : List Nat := (List.range n).filter p
theorem lot_mem {n v : Nat} {p : Nat → Bool} : v ∈ lot n p ↔ v < n ∧ p v = true := by unfold lot; rw [List.mem_filter, List.mem_range]
theorem lot_nodup {n : Nat} {p : Nat → Bool} : (lot n p).Nodup := List.nodup_range.filter _
theorem lot_sorted {n : Nat} {p : Nat → Bool} : (lot n p).Pairwise (· < ·) := List.pairwise_lt_range.filter _
theorem lot_len {n : Nat} {p : Nat → Bool} : (lot n p).length ≤ n := by
  have := List.length_filter_le p (List.range n)
  rwa [List.length_range] at this
theorem lot_congr {n : Nat} {p q : Nat → Bool} (h : ∀ v, v < n → p v = q v) : lot n p = lot n q := by
  unfold lot
  exact List.filter_congr fun v hv => h v (List.mem_range.mp hv)
theorem sorted_nodup {l : List Nat} (h : l.Pairwise (· < ·)) : l.Nodup := h.imp fun hab => Nat.ne_of_lt hab
theorem sorted_ext {l m : List Nat} (h1 : l.Pairwise (· < ·)) (h2 : m.Pairwise (· < ·)) (h : ∀ v, v ∈ l ↔ v ∈ m) : l = m :=
  List.Perm.eq_of_pairwise (le := (· < ·)) (fun a b _ _ h1 h2 => absurd h1 (by omega)) h1 h2 ((List.perm_ext_iff_of_nodup (sorted_nodup h1) (sorted_nodup h2)).mpr h)
theorem lot_self {n : Nat} {l : List Nat} (h : l.Pairwise (· < ·)) (hl : ∀ v ∈ l, v < n) : lot n (fun v => decide (v ∈ l)) = l :=
  sorted_ext lot_sorted h fun v => by rw [lot_mem, decide_eq_true_eq]; exact ⟨fun z => z.2, fun z => ⟨hl v z, z⟩⟩
theorem nodup_len {l : List Nat} {n : Nat} (hd : l.Nodup) (hl : ∀ v ∈ l, v < n) : l.length ≤ n := by
  have h := (List.perm_ext_iff_of_nodup hd (lot_nodup (n := n) (p := fun v => decide (v ∈ l)))).mpr fun v => by
    rw [lot_mem, decide_eq_true_eq]; exact ⟨fun z => ⟨hl v z, z⟩, fun z => z.2⟩
  rw [h.length_eq]
  exact lot_len
theorem sortN {l : List Nat} {n : Nat} (hd : l.Nodup) (hl : ∀ v ∈ l, v < n) (hn : n ≤ 1000000) : sortV (.lst (l.map nD)) = .ok ((lot n fun v => decide (v ∈ l)).map nD) := by
  have hlen := nodup_len hd hl
  have h := sortI (l.map fun (v : Nat) => (v : Int)) (by rw [List.length_map]; omega)
  have e := sort_eq (l := l.map fun (v : Nat) => (v : Int)) (m := (lot n fun v => decide (v ∈ l)).map fun (v : Nat) => (v : Int)) (((List.perm_ext_iff_of_nodup hd lot_nodup).mpr fun v => by
    rw [lot_mem, decide_eq_true_eq]; exact ⟨fun z => ⟨hl v z, z⟩, fun z => z.2⟩).map _) (List.pairwise_map.mpr (lot_sorted.imp fun hab => by omega))
  rw [e, List.map_map, List.map_map] at h
  exact h
theorem nats_inj {l m : List Nat} (h : l.map nD = m.map nD) : l = m := by
  refine (List.map_inj_right ?_).mp h
  intro a b e
  have e : D.int (a : Int) = .int (b : Int) := e
  injection e with e
  omega
theorem eqv_lst (xs ys : List D) : D.eqv (.lst xs) (.lst ys) = D.eqv (.tup xs) (.tup ys) := by
  unfold D.eqv
  simp only [D.py, PyData.eqv]
theorem eqv_nats : ∀ l m : List Nat, D.eqv (.tup (l.map nD)) (.tup (m.map nD)) = decide (l = m) := by
  intro l m
  rw [eqv_tup, List.length_map, List.length_map]
  induction l generalizing m with
  | nil => cases m <;> simp
  | cons a l ih =>
    cases m with
    | nil => simp
    | cons b m =>
      have h := ih m
      simp only [List.length_cons, List.map_cons, List.zip_cons_cons, List.all_cons, eqv_int_int]
      by_cases hab : a = b
      · subst hab
        simp only [decide_true, Bool.true_and, List.cons.injEq, true_and]
        rw [← h]
        congr 1
        simp
      · have : ¬ ((a : Int) = (b : Int)) := by omega
        simp [this, hab]
theorem dep_nats (l : List Nat) : (D.tup (l.map nD)).dep ≤ 1 := dep_tup (n := 0) fun d hd => by
  obtain ⟨v, _, rfl⟩ := List.mem_map.mp hd
  rw [dep_int]; exact Nat.le_refl _
theorem dep_natsL (l : List Nat) : (D.lst (l.map nD)).dep ≤ 1 := dep_lst (n := 0) fun d hd => by
  obtain ⟨v, _, rfl⟩ := List.mem_map.mp hd
  rw [dep_int]; exact Nat.le_refl _
theorem eq_natsL (l m : List Nat) : eqV (.lst (l.map nD)) (.lst (m.map nD)) = .ok (decide (l = m)) := by
  unfold eqV depOk
  rw [decide_eq_true (by have := dep_natsL l; omega), eqv_lst, eqv_nats]
  rfl
theorem eq_natsT (l m : List Nat) : eqV (.tup (l.map nD)) (.tup (m.map nD)) = .ok (decide (l = m)) := by
  unfold eqV depOk
  rw [decide_eq_true (by have := dep_nats l; omega), eqv_nats]
  rfl
/-! ### the way up -/
def upsF (rs : List Room) : Nat → Nat → List Nat
  | 0, v => [v]
  | f + 1, v => v :: (match parOf rs v with | none => [] | some p => upsF rs f p)
theorem upsF_more {rs : List Room} (g : Rms rs) : ∀ n f v : Nat, v ≤ f → v ≤ n → upsF rs f v = upsF rs n v
  | 0, 0, v, _, _ => rfl
  | 0, f + 1, v, h1, h2 => by
    have : v = 0 := by omega
    subst this
    show 0 :: (match parOf rs 0 with | none => [] | some p => upsF rs f p) = [0]
    rw [g.par0]
  | n + 1, 0, v, h1, h2 => by
    have : v = 0 := by omega
    subst this
    show [0] = 0 :: (match parOf rs 0 with | none => [] | some p => upsF rs n p)
    rw [g.par0]
  | n + 1, f + 1, v, h1, h2 => by
    rw [upsF, upsF]
    cases h : parOf rs v with
    | none => rfl
    | some p =>
      have := (g.par_lt h).1
      dsimp only
      rw [upsF_more g n f p (by omega) (by omega)]
def ups (rs : List Room) (v : Nat) : List Nat := upsF rs v v
theorem ups_eq {rs : List Room} (g : Rms rs) (v : Nat) : ups rs v = v :: (match parOf rs v with | none => [] | some p => ups rs p) := by
  unfold ups
  cases v with
  | zero => rw [upsF, g.par0]
  | succ v =>
    rw [upsF]
    cases h : parOf rs (v + 1) with
    | none => rfl
    | some p =>
      have := (g.par_lt h).1
      dsimp only
      rw [upsF_more g p v p (by omega) (by omega)]
theorem ups_none {rs : List Room} (g : Rms rs) {v : Nat} (h : parOf rs v = none) : ups rs v = [v] := by rw [ups_eq g, h]
theorem ups_some {rs : List Room} (g : Rms rs) {v p : Nat} (h : parOf rs v = some p) : ups rs v = v :: ups rs p := by rw [ups_eq g, h]
theorem ups_le {rs : List Room} (g : Rms rs) : ∀ (n v : Nat), v ≤ n → ∀ u ∈ ups rs v, u ≤ v
  | n, v, hn, u, hu => by
    cases h : parOf rs v with
    | none =>
      rw [ups_none g h] at hu
      have : u = v := by simpa using hu
      omega
    | some p =>
      rw [ups_some g h] at hu
      have hp := (g.par_lt h).1
      rcases List.mem_cons.mp hu with z | z
      · omega
      · cases n with
        | zero => omega
        | succ n => have := ups_le g n p (by omega) u z; omega
theorem ups_desc {rs : List Room} (g : Rms rs) : ∀ (n v : Nat), v ≤ n → (ups rs v).Pairwise (· > ·)
  | n, v, hn => by
    cases h : parOf rs v with
    | none => rw [ups_none g h]; simp
    | some p =>
      have hp := (g.par_lt h).1
      rw [ups_some g h]
      cases n with
      | zero => omega
      | succ n => exact List.pairwise_cons.mpr ⟨fun u hu => by have := ups_le g n p (by omega) u hu; omega, ups_desc g n p (by omega)⟩
theorem ups_nodup {rs : List Room} (g : Rms rs) (v : Nat) : (ups rs v).Nodup := (ups_desc g v v (Nat.le_refl _)).imp fun hab => Nat.ne_of_gt hab
theorem ups_self {rs : List Room} (g : Rms rs) (v : Nat) : v ∈ ups rs v := by rw [ups_eq g]; exact List.mem_cons_self
theorem ups_par {rs : List Room} (g : Rms rs) : ∀ (n v : Nat), v ≤ n → ∀ u ∈ ups rs v, ∀ p, parOf rs u = some p → p ∈ ups rs v
  | n, v, hn, u, hu, p, hp => by
    cases h : parOf rs v with
    | none =>
      rw [ups_none g h] at hu
      have : u = v := by simpa using hu
      subst this
      rw [h] at hp; cases hp
    | some q =>
      have hq := (g.par_lt h).1
      rw [ups_some g h] at hu ⊢
      rcases List.mem_cons.mp hu with z | z
      · subst z
        rw [h] at hp; cases hp
        exact List.mem_cons_of_mem _ (ups_self g _)
      · cases n with
        | zero => omega
        | succ n => exact List.mem_cons_of_mem _ (ups_par g n q (by omega) u z p hp)
/-- what has v and with each its parent has the whole way -/
theorem ups_in {rs : List Room} (g : Rms rs) {P : Nat → Prop} (hP : ∀ u p, P u → parOf rs u = some p → P p) : ∀ (n v : Nat), v ≤ n → P v → ∀ u ∈ ups rs v, P u
  | n, v, hn, hv, u, hu => by
    cases h : parOf rs v with
    | none =>
      rw [ups_none g h] at hu
      have : u = v := by simpa using hu
      subst this; exact hv
    | some q =>
      have hq := (g.par_lt h).1
      rw [ups_some g h] at hu
      rcases List.mem_cons.mp hu with z | z
      · subst z; exact hv
      · cases n with
        | zero => omega
        | succ n => exact ups_in g hP n q (by omega) (hP v q hv h) u z
theorem ups_lt {rs : List Room} (g : Rms rs) {v : Nat} (hv : v < rs.length) : ∀ u ∈ ups rs v, u < rs.length := fun u hu => by have := ups_le g v v (Nat.le_refl _) u hu; omega
theorem ups_zero {rs : List Room} (g : Rms rs) : ∀ (n v : Nat), v ≤ n → v < rs.length → 0 ∈ ups rs v
  | n, v, hn, hv => by
    by_cases h0 : v = 0
    · subst h0; exact ups_self g 0
    · obtain ⟨p, h, hp, _⟩ := g.par hv (by omega)
      rw [ups_some g h]
      cases n with
      | zero => omega
      | succ n => exact List.mem_cons_of_mem _ (ups_zero g n p (by omega) (by omega))
theorem ups_len {rs : List Room} (g : Rms rs) {v : Nat} (hv : v < rs.length) : (ups rs v).length ≤ rs.length := nodup_len (ups_nodup g v) (ups_lt g hv)
def vc__law_is_barred_1 (d : D) : Res (Option D) :=
  (idxV d (D.int 1)).bind fun x_3 => (eqV x_3 (D.str "bar")).bind fun b_4 => if b_4 = true then Res.ok (some (D.int 1)) else Res.ok none
def v__law_is_barred (dungeon : D) : Res (D) :=
  (idxV dungeon (D.int 0)).bind fun x_1 => (itemsV x_1).bind fun l_2 => (mapV (vc__law_is_barred_1) l_2).bind fun l_5 => (neV (D.lst l_5) (D.lst [])).bind fun b_6 => Res.ok (D.bl b_6)
def vb__law_way_has_bar_1 (dungeon : D) (s : D) : Res (FlV (D) (D)) :=
  (idxV dungeon (D.int 0)).bind fun x_4 => (idxV x_4 s).bind fun x_5 => (idxV x_5 (D.int 1)).bind fun x_6 => (eqV x_6 (D.str "bar")).bind fun b_7 => if b_7 = true then Res.ok (.rt (D.bl true))
  else (idxV dungeon (D.int 0)).bind fun x_8 => (idxV x_8 s).bind fun x_9 => (idxV x_9 (D.int 0)).bind fun x_10 => 
  Res.ok (.nx x_10)
def vt__law_way_has_bar_1 (dungeon : D) (s : D) : Res Bool :=
  (isnotV s D.non).bind fun b_1 => (if b_1 = true then (gtV s (D.int 0)).bind fun b_2 => Res.ok b_2 else Res.ok false).bind fun x_3 => Res.ok x_3
def v__law_way_has_bar (dungeon : D) (v : D) : Res (D) :=
  (whlVR (vt__law_way_has_bar_1 dungeon) (vb__law_way_has_bar_1 dungeon) WF v).bind (onV (fun v_11 => 
  Res.ok (D.bl false)) (fun r_12 => Res.ok r_12))
def vc__law_any_laid_1 (dungeon : D) (d : D) : Res (Option D) :=
  (v__law_way_has_bar dungeon d).bind fun x_6 => (truV x_6).bind fun b_7 => if (!b_7) = true then Res.ok (some d) else Res.ok none
def vc__law_any_laid_2 (d : D) : Res (Option D) :=
  (idxV d (D.int 1)).bind fun x_21 => (eqV x_21 (D.str "lock")).bind fun b_22 => if b_22 = true then Res.ok (some d) else Res.ok none
def vb__law_any_laid_4 (rooms : D) (d : D) (s : List D × D) : Res (List D × D) :=
  (gtV s.2 (D.int 0)).bind fun b_34 => (if b_34 = true then (v__law_take s.1 (D.int 2)).bind fun x_35 => (eqV x_35.1 (D.int 0)).bind fun b_36 => Res.ok (b_36, x_35.2) else Res.ok (false, s.1)).bind fun s_37 => (if s_37.1 = true then (idxV rooms s.2).bind fun x_38 => (idxV x_38 (D.int 0)).bind fun x_39 => Res.ok x_39 else Res.ok s.2).bind fun x_40 => 
  Res.ok (s_37.2, x_40)
def vb__law_any_laid_3 (rooms : D) (way : D) (d : D) (s : List D × List D) : Res (List D × List D) :=
  (lenV rooms).bind fun x_31 => (v__law_take s.1 x_31).bind fun x_32 => 
  (rng1V way).bind fun l_33 => (foldV (vb__law_any_laid_4 rooms) l_33 (x_32.2, x_32.1)).bind fun s_41 => 
  (getIV s.2 s_41.2).bind fun i_42 => (intD (D.int 1)).bind fun i_43 => (stV s.2 s_41.2 (.int (i_42 + i_43))).bind fun small_44 => 
  Res.ok (s_41.1, small_44)
def v__law_any_laid (bag : List D) (dungeon : D) : Res (D × List D) :=
  (idxV dungeon (D.int 0)).bind fun x_1 => 
  (v__law_is_barred dungeon).bind fun x_2 => (truV x_2).bind fun b_3 => ((if b_3 = true then (lenV x_1).bind fun x_5 => (rng1V x_5).bind fun l_4 => (mapV (vc__law_any_laid_1 dungeon) l_4).bind fun l_8 => 
  (v__law_take bag (D.int 4)).bind fun x_9 => (gtV x_9.1 (D.int 0)).bind fun b_10 => (if b_10 = true then Res.ok (D.lst l_8) else (lenV x_1).bind fun x_11 => (rgV x_11).bind fun l_12 => Res.ok (D.lst l_12)).bind fun x_13 => (v__law_some x_9.2 x_13).bind fun x_14 => 
  Res.ok (x_14.2, x_14.1) else Res.ok (bag, D.non) : Res (List D × D))).bind fun s_15 => 
  (lenV x_1).bind fun x_16 => (repV ([(D.int 0)]) x_16).bind fun x_17 => (Res.ok x_17).bind fun small_18 => (v__law_take s_15.1 (D.int 4)).bind fun x_19 => 
  (itemsV x_1).bind fun l_20 => (mapV (vc__law_any_laid_2) l_20).bind fun l_23 => (lenV (D.lst l_23)).bind fun x_24 => 
  (addV x_24 (D.int 1)).bind fun x_26 => (subV x_24 (D.int 1)).bind fun x_27 => (max2V (D.int 0) x_27).bind fun x_28 => (v__law_take x_19.2 (D.int 4)).bind fun x_29 => (v__law_some x_29.2 (D.lst [x_24, x_24, x_26, x_28, x_29.1])).bind fun x_30 => (rng1V x_30.1).bind fun l_25 => (foldV (vb__law_any_laid_3 x_1 x_19.1) l_25 (x_30.2, small_18)).bind fun s_45 => 
  (tupV (D.lst s_45.2)).bind fun x_46 => Res.ok ((D.tup [s_15.2, x_46]), s_45.1)
def vc__law_any_lot_1 (way : D) (d : D) (s : List D) : Res (Option D × List D) :=
  (addV (D.int 2) way).bind fun x_6 => (v__law_take s x_6).bind fun x_7 => (eqV x_7.1 (D.int 0)).bind fun b_8 => if b_8 = true then Res.ok (some d, x_7.2) else Res.ok (none, x_7.2)
def v__law_any_lot (bag : List D) (many : D) : Res (D × List D) :=
  (v__law_take bag (D.int 3)).bind fun x_1 => 
  (rng1V many).bind fun l_2 => (mapVS (vc__law_any_lot_1 x_1.1) l_2 x_1.2).bind fun l_9 => (tupV (D.lst l_9.1)).bind fun x_10 => Res.ok (x_10, l_9.2)
def v_is_in_rightly (dungeon : D) (big : D) (rooms : D) (v : D) : Res (D) :=
  (idxV dungeon (D.int 0)).bind fun x_1 => (idxV x_1 v).bind fun x_2 => (un3 x_2).bind fun t_3 => 
  (memV false v rooms).bind fun b_4 => if b_4 = true then (memV false t_3.1 rooms).bind fun b_5 => (if b_5 = true then (neV t_3.2.1 (D.str "bar")).bind fun b_6 => (if b_6 = true then Res.ok b_6 else (memV false big rooms).bind fun b_7 => Res.ok b_7).bind fun x_8 => Res.ok x_8 else Res.ok b_5).bind fun x_9 => Res.ok (D.bl x_9)
  else (memV true t_3.1 rooms).bind fun b_10 => (if b_10 = true then Res.ok b_10 else (eqV t_3.2.1 (D.str "lock")).bind fun b_11 => (if b_11 = true then Res.ok b_11 else (eqV t_3.2.1 (D.str "bar")).bind fun b_12 => (if b_12 = true then (memV true big rooms).bind fun b_13 => Res.ok b_13 else Res.ok b_12).bind fun x_14 => Res.ok x_14).bind fun x_15 => Res.ok x_15).bind fun x_16 => Res.ok (D.bl x_16)
def vb_way_to_1 (dungeon : D) (s : D × List D) : Res (D × List D) :=
  (appV s.2 s.1).bind fun found_3 => 
  (idxV dungeon (D.int 0)).bind fun x_4 => (idxV x_4 s.1).bind fun x_5 => (idxV x_5 (D.int 0)).bind fun x_6 => 
  Res.ok (x_6, found_3)
def vt_way_to_1 (dungeon : D) (s : D × List D) : Res Bool :=
  (isnotV s.1 D.non).bind fun b_2 => Res.ok b_2
def v_way_to (dungeon : D) (v : D) : Res (D) :=
  (Res.ok []).bind fun found_1 => 
  (whlV (vt_way_to_1 dungeon) (vb_way_to_1 dungeon) WF (v, found_1)).bind fun s_7 => 
  (sortV (D.lst s_7.2)).bind fun l_8 => (tupV (D.lst l_8)).bind fun x_9 => Res.ok x_9
def vc_rim_of_1 (rooms : D) (d : D) : Res (Option D) :=
  (un2 d).bind fun t_3 => (memV true t_3.1 rooms).bind fun b_4 => (if b_4 = true then (idxV t_3.2 (D.int 0)).bind fun x_5 => (memV false x_5 rooms).bind fun b_6 => Res.ok b_6 else Res.ok false).bind fun x_7 => if x_7 = true then Res.ok (some t_3.1) else Res.ok none
def v_rim_of (dungeon : D) (rooms : D) : Res (D) :=
  (idxV dungeon (D.int 0)).bind fun x_2 => (datV (enumL 0) x_2).bind fun l_1 => (mapV (vc_rim_of_1 rooms) l_1).bind fun l_8 => (tupV (D.lst l_8)).bind fun x_9 => Res.ok x_9
theorem way_loop {rs : List Room} {k : Nat} (g : Rms rs) (hn : rs.length ≤ 1000) : ∀ (m v : Nat) (acc : List Nat) (f : Nat), v ≤ m → v < rs.length → acc.length + v ≤ 2000 → v + 1 < f → whlV (vt_way_to_1 (dunD rs k)) (vb_way_to_1 (dunD rs k)) f (nD v, acc.map nD) = .ok (.non, (acc ++ ups rs v).map nD)
  | m, v, acc, 0, h1, h2, h3, h4 => by omega
  | m, v, acc, f + 1, h1, h2, h3, h4 => by
    have e1 : vt_way_to_1 (dunD rs k) (nD v, acc.map nD) = .ok true := rfl
    have e2 : vb_way_to_1 (dunD rs k) (nD v, acc.map nD) = .ok (oD (parOf rs v), (acc ++ [v]).map nD) := by
      unfold vb_way_to_1
      dsimp only
      rw [app_ok (by rw [List.length_map]; omega), okb, dun0, okb, ix_room h2, okb, rD0, okb, List.map_append]
      rfl
    rw [whlV, e1, okb, if_pos rfl, e2, okb]
    cases h : parOf rs v with
    | none =>
      cases f with
      | zero => omega
      | succ f =>
        have e3 : vt_way_to_1 (dunD rs k) (D.non, (acc ++ [v]).map nD) = .ok false := rfl
        show whlV _ _ (f + 1) (D.non, (acc ++ [v]).map nD) = _
        rw [whlV, e3, okb, if_neg (by simp), ups_none g h]
    | some p =>
      have hp := (g.par_lt h).1
      cases m with
      | zero => omega
      | succ m =>
        have := way_loop (k := k) g hn m p (acc ++ [v]) f (by omega) (by omega) (by rw [List.length_append, List.length_singleton]; omega) (by omega)
        show whlV _ _ f (nD p, (acc ++ [v]).map nD) = _
        rw [this, ups_some g h, List.append_assoc]
        rfl
/-- the way of a room, in order -/
def wayL (rs : List Room) (v : Nat) : List Nat := lot rs.length fun u => decide (u ∈ ups rs v)
theorem way_to_spec {rs : List Room} {k v : Nat} (g : Rms rs) (hn : rs.length ≤ 1000) (hv : v < rs.length) : v_way_to (dunD rs k) (nD v) = .ok (.tup ((wayL rs v).map nD)) := by
  have e := way_loop (k := k) g hn v v [] WF (Nat.le_refl _) hv (by rw [List.length_nil]; omega) (by unfold WF; omega)
  rw [List.nil_append] at e
  unfold v_way_to
  rw [okb]
  show (whlV _ _ WF (nD v, List.map nD [])).bind _ = _
  rw [e, okb, sortN (ups_nodup g v) (ups_lt g hv) (by omega), okb, tupL, okb]
  rfl
theorem wayL_mem {rs : List Room} (g : Rms rs) {u v : Nat} (hv : v < rs.length) : u ∈ wayL rs v ↔ u ∈ ups rs v := by
  unfold wayL
  rw [lot_mem, decide_eq_true_eq]
  exact ⟨fun z => z.2, fun z => ⟨ups_lt g hv u z, z⟩⟩
/-! ### bars on the way -/
def wayBar (rs : List Room) (v : Nat) : Bool := (ups rs v).any fun u => decide (wayOf rs u = .bar)
theorem lwb_loop {rs : List Room} {k : Nat} (g : Rms rs) : ∀ (m v f : Nat), v ≤ m → v < rs.length → v < f → whlVR (vt__law_way_has_bar_1 (dunD rs k)) (vb__law_way_has_bar_1 (dunD rs k)) f (nD v) = .ok (if wayBar rs v = true then .rt (.bl true) else .nx (nD 0))
  | m, v, 0, h1, h2, h3 => by omega
  | m, v, f + 1, h1, h2, h3 => by
    have e1 : vt__law_way_has_bar_1 (dunD rs k) (nD v) = .ok (decide (0 < v)) := by
      unfold vt__law_way_has_bar_1
      rw [isnot_non, okb]
      show ((if (!isNonD (nD v)) = true then _ else _ : Res Bool)).bind _ = _
      have : (!isNonD (nD v)) = true := rfl
      rw [if_pos this, gt_intV, okb, okb]
      by_cases h : 0 < v <;> simp [h]
    rw [whlVR, e1, okb]
    by_cases h0 : v = 0
    · subst h0
      have hb : wayBar rs 0 = false := by
        unfold wayBar
        rw [ups_none g g.par0, List.any_cons, List.any_nil, g.way0]
        rfl
      rw [if_neg (by simp), hb]
      rfl
    · obtain ⟨p, hp, hpv, _⟩ := g.par h2 (by omega)
      have e2 : vb__law_way_has_bar_1 (dunD rs k) (nD v) = .ok (if decide (wayOf rs v = .bar) = true then .rt (.bl true) else .nx (nD p)) := by
        unfold vb__law_way_has_bar_1
        rw [dun0, okb, ix_room h2, okb, rD1, okb, way_bar, okb, okb, ix_room h2, okb, rD0, okb, hp]
        cases decide (wayOf rs v = .bar) <;> rfl
      rw [if_pos (by simp; omega), e2, okb]
      have hb : wayBar rs v = (decide (wayOf rs v = .bar) || wayBar rs p) := by
        unfold wayBar
        rw [ups_some g hp, List.any_cons]
      rw [hb]
      cases hd : decide (wayOf rs v = .bar) with
      | true => rfl
      | false =>
        cases m with
        | zero => omega
        | succ m =>
          rw [Bool.false_or]
          exact lwb_loop g m p f (by omega) (by omega) (by omega)
theorem lwb_spec {rs : List Room} {k v : Nat} (g : Rms rs) (hn : rs.length ≤ 1000) (hv : v < rs.length) : v__law_way_has_bar (dunD rs k) (nD v) = .ok (.bl (wayBar rs v)) := by
  unfold v__law_way_has_bar
  rw [lwb_loop g v v WF (Nat.le_refl _) hv (by unfold WF; omega), okb]
  cases wayBar rs v <;> rfl
theorem barred_spec {rs : List Room} {k : Nat} (hn : rs.length ≤ 1000) : v__law_is_barred (dunD rs k) = .ok (.bl (isBarred rs)) := by
  unfold v__law_is_barred
  rw [dun0, okb, itemsV_tup, okb, count_ways (w := .bar) (fun r => by
    have e : idxV (roomD r) (.int 1) = .ok r.way.d := it1 _ _ _
    unfold vc__law_is_barred_1
    rw [e, okb, way_bar, okb]
    cases decide (r.way = Way.bar) <;> rfl) (by omega), okb, ne_nil, filter_bar, okb]
theorem wayBar0 {rs : List Room} (g : Rms rs) : wayBar rs 0 = false := by
  unfold wayBar
  rw [ups_none g g.par0, List.any_cons, List.any_nil, g.way0]
  rfl
/-! ### where the keys lie -/
def laidD (big : Option Nat) (small : List Nat) : D := .tup [oD big, .tup (small.map nD)]
structure Laid (rs : List Room) (big : Option Nat) (small : List Nat) : Prop where
  len : small.length = rs.length
  barred : isBarred rs = true → ∃ v, big = some v ∧ v < rs.length
  plain : isBarred rs = false → big = none
  few : ∀ x ∈ small, x ≤ 100
theorem Laid.lt {rs : List Room} {big : Option Nat} {small : List Nat} (h : Laid rs big small) {v : Nat} (e : big = some v) : v < rs.length := by
  cases hb : isBarred rs with
  | true => obtain ⟨w, e2, hw⟩ := h.barred hb; rw [e] at e2; cases e2; exact hw
  | false => rw [h.plain hb] at e; cases e
theorem laid0 (big : Option Nat) (small : List Nat) : idxV (laidD big small) (.int 0) = .ok (oD big) := it0 _ _
theorem laid1 (big : Option Nat) (small : List Nat) : idxV (laidD big small) (.int 1) = .ok (.tup (small.map nD)) := it1 _ _ _
theorem laid_step {rs : List Room} {m : Nat} (g : Rms rs) {b : List D} {v : Nat} (hB : Bag b) (hv : v < rs.length) : ∃ b' v', foldV (vb__law_any_laid_4 (.tup (rs.map roomD))) ((List.range m).map nD) (b, nD v) = .ok (b', nD v') ∧ Bag b' ∧ v' < rs.length := by
  obtain ⟨s', e, ⟨v', e2, hv'⟩, hB'⟩ := foldV_inv (fun s : List D × D => (∃ v, s.2 = nD v ∧ v < rs.length) ∧ Bag s.1) (f := vb__law_any_laid_4 (.tup (rs.map roomD))) (ds := (List.range m).map nD) (fun d _ s hs => by
    obtain ⟨⟨v, e, hv⟩, hB⟩ := hs
    obtain ⟨b, x⟩ := s
    dsimp only at e hB
    subst e
    unfold vb__law_any_laid_4
    dsimp only
    rw [gt_intV, okb]
    by_cases h0 : 0 < v
    · obtain ⟨w, b', e1, hB', hw⟩ := take_nat (n := 2) (k := 2) hB (by omega) (by omega) (by omega)
      obtain ⟨p, hp, hpv, _⟩ := g.par hv h0
      have hc : decide ((0 : Int) < ((v : Nat) : Int)) = true := decide_eq_true (by omega)
      rw [if_pos hc, e1, okb, eqI, okb, okb]
      dsimp only
      by_cases hz : ((w : Nat) : Int) = 0
      · rw [if_pos (decide_eq_true hz), ix_room hv, okb, rD0, okb, hp, okb]
        exact ⟨_, rfl, ⟨p, rfl, by omega⟩, hB'⟩
      · rw [if_neg (by simpa using hz), okb]
        exact ⟨_, rfl, ⟨v, rfl, hv⟩, hB'⟩
    · have hc : decide ((0 : Int) < ((v : Nat) : Int)) = false := decide_eq_false (by omega)
      rw [hc, if_neg (by simp), okb]
      dsimp only
      rw [if_neg (by simp), okb]
      exact ⟨_, rfl, ⟨v, rfl, hv⟩, hB⟩) (b, nD v) ⟨⟨v, rfl, hv⟩, hB⟩
  obtain ⟨b', x⟩ := s'
  dsimp only at e2 hB'
  subst e2
  exact ⟨b', v', e, hB', hv'⟩
theorem ixN_nat {n v : Nat} (h : v < n) : ixN n (v : Int) = some v := by
  unfold ixN
  rw [if_pos (by omega), if_pos (by omega)]
  rfl
theorem st_nat {l : List Nat} {v x : Nat} (h : v < l.length) : stV (l.map nD) (nD v) (nD x) = .ok ((l.set v x).map nD) := by
  unfold stV
  dsimp only
  rw [List.length_map, ixN_nat h, List.map_set]
theorem get_nat {l : List Nat} {v : Nat} (h : v < l.length) : getIV (l.map nD) (nD v) = .ok (l[v] : Int) := by
  unfold getIV atI
  dsimp only
  rw [List.length_map, ixN_nat h]
  show (match (l.map nD)[v]? with | some (.int i) => Res.ok i | _ => Res.bad) = _
  rw [List.getElem?_map, List.getElem?_eq_getElem h]
  rfl
theorem laid_loop {rs : List Room} {m w : Nat} (g : Rms rs) (hn : rs.length ≤ 1000) (hw : w ≤ 1000) (hm : m ≤ 90) {b : List D} (hB : Bag b) : ∃ (b' : List D) (small : List Nat), foldV (vb__law_any_laid_3 (.tup (rs.map roomD)) (nD w)) ((List.range m).map nD) (b, (List.replicate rs.length 0).map nD) = .ok (b', small.map nD) ∧ Bag b' ∧ small.length = rs.length ∧ ∀ x ∈ small, x ≤ m := by
  have hpos := g.pos
  obtain ⟨s', e, ⟨small, e2, hl, hx⟩, hB'⟩ := foldV_ix (fun i (s : List D × List D) => (∃ small : List Nat, s.2 = small.map nD ∧ small.length = rs.length ∧ ∀ x ∈ small, x ≤ i) ∧ Bag s.1) (f := vb__law_any_laid_3 (.tup (rs.map roomD)) (nD w)) (ds := (List.range m).map nD) (k := 0) (fun i d s hd hs => by
    obtain ⟨⟨small, e, hl, hx⟩, hB⟩ := hs
    obtain ⟨b, x⟩ := s
    dsimp only at e hB
    subst e
    unfold vb__law_any_laid_3
    dsimp only
    obtain ⟨v, b1, e1, hB1, hv⟩ := take_nat (n := rs.length) (k := (rs.length : Int)) hB rfl hpos (by omega)
    obtain ⟨b2, v2, e2, hB2, hv2⟩ := laid_step (m := w) g hB1 hv
    have hv3 : v2 < small.length := by omega
    have hp1 : D.int ((small[v2] : Int) + 1) = nD (small[v2] + 1) := by unfold nD; congr 1
    rw [len_rooms, okb, e1, okb, rng1_nat (by omega), okb, e2, okb, get_nat hv3, okb, intD_int, okb, hp1, st_nat hv3, okb]
    refine ⟨_, rfl, ⟨_, rfl, by rw [List.length_set]; exact hl, fun x hxm => ?_⟩, hB2⟩
    rcases List.mem_or_eq_of_mem_set hxm with z | z
    · have := hx x z; omega
    · have := hx _ (List.getElem_mem hv3); omega) (b, (List.replicate rs.length 0).map nD) ⟨⟨_, rfl, by simp, fun x hx => by simp at hx; omega⟩, hB⟩
  obtain ⟨b', x⟩ := s'
  dsimp only at e2 hB'
  subst e2
  refine ⟨b', small, e, hB', hl, fun x h => ?_⟩
  have := hx x h
  rw [List.length_map, List.length_range] at this
  omega
theorem any_laid_spec {rs : List Room} {k : Nat} (g : Rms rs) (hn : rs.length ≤ 80) {b : List D} (hB : Bag b) : ∃ big small b', v__law_any_laid b (dunD rs k) = .ok (laidD big small, b') ∧ Bag b' ∧ Laid rs big small := by
  have hpos := g.pos
  -- the big key
  obtain ⟨big, b1, e1, hB1, hb1, hb2⟩ : ∃ (big : Option Nat) (b1 : List D), ((if isBarred rs = true then (lenV (.tup (rs.map roomD))).bind fun x_5 => (rng1V x_5).bind fun l_4 => (mapV (vc__law_any_laid_1 (dunD rs k)) l_4).bind fun l_8 =>
      (v__law_take b (D.int 4)).bind fun x_9 => (gtV x_9.1 (D.int 0)).bind fun b_10 => (if b_10 = true then Res.ok (D.lst l_8) else (lenV (.tup (rs.map roomD))).bind fun x_11 => (Pf.rgV x_11).bind fun l_12 => Res.ok (D.lst l_12)).bind fun x_13 => (v__law_some x_9.2 x_13).bind fun x_14 =>
      Res.ok (x_14.2, x_14.1) else Res.ok (b, D.non) : Res (List D × D))) = .ok (b1, oD big) ∧ Bag b1 ∧ (isBarred rs = true → ∃ v, big = some v ∧ v < rs.length) ∧ (isBarred rs = false → big = none) := by
    cases hb : isBarred rs with
    | false => exact ⟨none, b, by rw [if_neg (by simp)]; rfl, hB, fun h => Bool.noConfusion h, fun _ => rfl⟩
    | true =>
      rw [if_pos rfl, len_rooms, okb, rng1_nat (by omega), okb, mapV_if (fun v => !wayBar rs v) nD (fun v hv => by
        unfold vc__law_any_laid_1
        rw [lwb_spec g (by omega) (List.mem_range.mp hv), okb, truV_bl, okb]
        cases wayBar rs v <;> rfl) (by rw [List.length_range]; omega), okb]
      obtain ⟨x, b1, e1, hB1, hx⟩ := take_nat (n := 4) (k := 4) hB (by omega) (by omega) (by omega)
      rw [e1, okb, gt_intV, okb]
      dsimp only
      have h0 : 0 ∈ (List.range rs.length).filter fun v => !wayBar rs v := List.mem_filter.mpr ⟨List.mem_range.mpr hpos, by rw [wayBar0 g]; rfl⟩
      by_cases hz : (0 : Int) < ((x : Nat) : Int)
      · obtain ⟨d, b2, e2, hB2, hd⟩ := some_lst (ds := ((List.range rs.length).filter fun v => !wayBar rs v).map nD) hB1 (by
          intro z
          rw [List.map_eq_nil_iff] at z
          rw [z] at h0; simp at h0) (by rw [List.length_map]; have := List.length_filter_le (fun v => !wayBar rs v) (List.range rs.length); rw [List.length_range] at this; omega)
        obtain ⟨v, hv, rfl⟩ := List.mem_map.mp hd
        rw [if_pos (decide_eq_true hz), okb, e2, okb]
        exact ⟨some v, b2, rfl, hB2, fun _ => ⟨v, rfl, List.mem_range.mp (List.mem_filter.mp hv).1⟩, fun h => Bool.noConfusion h⟩
      · obtain ⟨d, b2, e2, hB2, hd⟩ := some_lst (ds := (List.range rs.length).map nD) hB1 (by
          intro z
          rw [List.map_eq_nil_iff, List.range_eq_nil] at z
          omega) (by rw [List.length_map, List.length_range]; omega)
        obtain ⟨v, hv, rfl⟩ := List.mem_map.mp hd
        rw [if_neg (by simpa using hz), okb, rgV_nat (by omega), okb, okb, e2, okb]
        exact ⟨some v, b2, rfl, hB2, fun _ => ⟨v, rfl, List.mem_range.mp hv⟩, fun h => Bool.noConfusion h⟩
  have er : repV [D.int 0] (nD rs.length) = .ok ((List.replicate rs.length 0).map nD) := by
    unfold repV
    dsimp only
    rw [decide_eq_true (by
      refine ⟨by omega, by omega, ?_⟩
      have := big_line
      rw [Int.toNat_natCast, List.length_singleton]
      omega)]
    show Res.ok _ = _
    rw [Int.toNat_natCast, List.map_replicate]
    congr 1
    induction rs.length with
    | zero => rfl
    | succ n ih => rw [List.replicate_succ, List.flatten_cons, ih]; rfl
  obtain ⟨w, b2, e2, hB2, hw⟩ := take_nat (n := 4) (k := 4) hB1 (by omega) (by omega) (by omega)
  have hlk : ((rs.filter fun r => decide (r.way = Way.lck)).map roomD).length ≤ rs.length := by rw [List.length_map]; exact List.length_filter_le _ _
  have c1 : mapV vc__law_any_laid_2 (rs.map roomD) = .ok ((rs.filter fun r => decide (r.way = Way.lck)).map roomD) := mapV_if (fun r => decide (r.way = Way.lck)) roomD (fun r _ => by
    have e : idxV (roomD r) (.int 1) = .ok r.way.d := it1 _ _ _
    unfold vc__law_any_laid_2
    rw [e, okb, way_lck, okb]
    cases decide (r.way = Way.lck) <;> rfl) (by omega)
  generalize ((rs.filter fun r => decide (r.way = Way.lck)).map roomD) = lk at c1 hlk
  obtain ⟨y, b3, e3, hB3, hy⟩ := take_nat (n := 4) (k := 4) hB2 (by omega) (by omega) (by omega)
  obtain ⟨m, b4, e4, hB4, hm⟩ : ∃ (m : Nat) (b4 : List D), v__law_some b3 (.lst [.int lk.length, .int lk.length, .int (lk.length + 1), .int (max 0 (lk.length - 1)), nD y]) = .ok (nD m, b4) ∧ Bag b4 ∧ m ≤ 90 := by
    obtain ⟨d, b5, e5, hB5, hd⟩ := some_lst (ds := [.int lk.length, .int lk.length, .int (lk.length + 1), .int (max 0 (lk.length - 1)), nD y]) hB3 (by simp) (by simp)
    simp only [List.mem_cons, List.not_mem_nil, or_false] at hd
    rcases hd with z | z | z | z | z
    · exact ⟨lk.length, b5, by rw [e5, z], hB5, by omega⟩
    · exact ⟨lk.length, b5, by rw [e5, z], hB5, by omega⟩
    · exact ⟨lk.length + 1, b5, by rw [e5, z]; rfl, hB5, by omega⟩
    · refine ⟨lk.length - 1, b5, ?_, hB5, by omega⟩
      have hz : (max 0 ((lk.length : Int) - 1)) = ((lk.length - 1 : Nat) : Int) := by omega
      rw [e5, z, hz]
    · exact ⟨y, b5, by rw [e5, z], hB5, by omega⟩
  obtain ⟨b5, small, e5, hB5, hl, hx⟩ := laid_loop (m := m) (w := w) g (by omega) (by omega) hm hB4
  refine ⟨big, small, b5, ?_, hB5, ⟨hl, hb1, hb2, fun x h => by have := hx x h; omega⟩⟩
  unfold v__law_any_laid
  rw [dun0, okb, barred_spec (by omega), okb, truV_bl, okb, e1, okb, len_rooms, okb, er, okb, okb]
  dsimp only
  rw [e2, okb, itemsV_tup, okb, c1, okb, len_lstV, okb, addI, okb, subI, okb, maxI, okb]
  dsimp only
  rw [e3, okb, e4, okb, rng1_nat (by omega), okb, e5, okb, tupL, okb]
  rfl
theorem mapWS_sub {S : Type} (P : S → Prop) {f : D → S → Res (Option D × S)} {ds : List D} (h : ∀ d ∈ ds, ∀ s, P s → ∃ o s', f d s = .ok (o, s') ∧ P s' ∧ (o = none ∨ o = some d)) :
    ∀ s, P s → ∃ l s', mapWS f ds s = .ok (l, s') ∧ P s' ∧ l.Sublist ds := by
  induction ds with
  | nil => exact fun s hs => ⟨[], s, rfl, hs, List.Sublist.refl _⟩
  | cons d ds ih =>
    intro s hs
    obtain ⟨o, s1, e1, h1, q1⟩ := h d List.mem_cons_self s hs
    obtain ⟨l, s2, e2, h2, l2⟩ := ih (fun d hd => h d (List.mem_cons_of_mem _ hd)) s1 h1
    rcases q1 with rfl | rfl
    · exact ⟨l, s2, by rw [mapWS, e1, okb, e2, okb], h2, l2.cons _⟩
    · exact ⟨d :: l, s2, by rw [mapWS, e1, okb, e2, okb], h2, l2.cons_cons _⟩
/-- a lot of numbers below n -/
structure Lot (n : Nat) (l : List Nat) : Prop where
  sorted : l.Pairwise (· < ·)
  lt : ∀ v ∈ l, v < n
theorem Lot.nodup {n : Nat} {l : List Nat} (h : Lot n l) : l.Nodup := sorted_nodup h.sorted
theorem Lot.len {n : Nat} {l : List Nat} (h : Lot n l) : l.length ≤ n := nodup_len h.nodup h.lt
theorem Lot.nil {n : Nat} : Lot n [] := ⟨List.Pairwise.nil, fun _ z => absurd z (by simp)⟩
theorem lot_lot {n : Nat} {p : Nat → Bool} : Lot n (lot n p) := ⟨lot_sorted, fun v hv => (lot_mem.mp hv).1⟩
theorem Lot.filter {n : Nat} {l : List Nat} (h : Lot n l) (p : Nat → Bool) : Lot n (l.filter p) := ⟨h.sorted.filter _, fun v hv => h.lt v (List.mem_filter.mp hv).1⟩
theorem any_lot_spec {n : Nat} (hn : n ≤ 1000) {b : List D} (hB : Bag b) : ∃ l b', v__law_any_lot b (nD n) = .ok (.tup (l.map nD), b') ∧ Bag b' ∧ Lot n l := by
  obtain ⟨w, b1, e1, hB1, hw⟩ := take_nat (n := 3) (k := 3) hB (by omega) (by omega) (by omega)
  obtain ⟨l, b2, e2, hB2, hl⟩ := mapWS_sub Bag (f := vc__law_any_lot_1 (nD w)) (ds := (List.range n).map nD) (fun d _ s hs => by
    obtain ⟨x, b', e, hB', _⟩ := take_nat (n := 2 + w) (k := 2 + (w : Int)) hs (by omega) (by omega) (by omega)
    unfold vc__law_any_lot_1
    rw [addI, okb, e, okb, eqI, okb]
    by_cases hz : ((x : Nat) : Int) = 0
    · rw [if_pos (decide_eq_true hz)]; exact ⟨_, _, rfl, hB', .inr rfl⟩
    · rw [if_neg (by simpa using hz)]; exact ⟨_, _, rfl, hB', .inl rfl⟩) b1 hB1
  obtain ⟨m, hm, rfl⟩ := List.sublist_map_iff.mp hl
  have hlen : m.length ≤ n := by have := hm.length_le; rwa [List.length_range] at this
  refine ⟨m, b2, ?_, hB2, ⟨List.pairwise_lt_range.sublist hm, fun v hv => List.mem_range.mp (hm.subset hv)⟩⟩
  unfold v__law_any_lot
  rw [e1, okb, rng1_nat (by omega), okb, mapVS_of e2 (by rw [List.length_map]; omega), okb, tupL, okb]
/-! ### rightly in, or not -/
/-- what holds the numbers l: a tuple or a list of them -/
structure Has (d : D) (l : List Nat) : Prop where
  mem : ∀ (neg : Bool) (o : Option Nat), memV neg (oD o) d = .ok (neg.xor (o.any fun v => decide (v ∈ l)))
theorem has_tup (l : List Nat) : Has (.tup (l.map nD)) l := ⟨fun neg o => mem_tupO neg o l⟩
theorem has_lst (l : List Nat) : Has (.lst (l.map nD)) l := ⟨fun neg o => mem_lstO neg o l⟩
theorem Has.at {d : D} {l : List Nat} (h : Has d l) (neg : Bool) (v : Nat) : memV neg (nD v) d = .ok (neg.xor (decide (v ∈ l))) := h.mem neg (some v)
def rightlyB (a b c d e : Bool) : Bool := if a = true then b && (!d || c) else !b || (e || (d && !c))
def rightly (rs : List Room) (big : Option Nat) (q : Nat → Bool) (v : Nat) : Bool :=
  rightlyB (q v) ((parOf rs v).any q) (big.any q) (decide (wayOf rs v = .bar)) (decide (wayOf rs v = .lck))
theorem rightly_spec {rs : List Room} {k v : Nat} {big : Option Nat} {R : D} {l : List Nat} (hR : Has R l) (hv : v < rs.length) : v_is_in_rightly (dunD rs k) (oD big) R (nD v) = .ok (.bl (rightly rs big (fun u => decide (u ∈ l)) v)) := by
  unfold v_is_in_rightly rightly
  rw [dun0, okb, ix_room hv, okb, rDu, okb, hR.at, okb]
  dsimp only
  rw [hR.mem, hR.mem, hR.mem, hR.mem, way_nbar, way_lck, way_bar]
  rw [nat_xor_f, nat_xor_f, nat_xor_f, nat_xor_t, nat_xor_t]
  show _ = Res.ok (D.bl (rightlyB (decide (v ∈ l)) ((parOf rs v).any fun u => decide (u ∈ l)) (big.any fun u => decide (u ∈ l)) (decide (wayOf rs v = .bar)) (decide (wayOf rs v = .lck))))
  generalize decide (v ∈ l) = a
  generalize (parOf rs v).any _ = b
  generalize big.any _ = c
  generalize decide (wayOf rs v = .bar) = d
  generalize decide (wayOf rs v = .lck) = e
  cases a <;> cases b <;> cases c <;> cases d <;> cases e <;> rfl
def inRim (rs : List Room) (q : Nat → Bool) (v : Nat) : Bool := !q v && (parOf rs v).any q
theorem rim_spec {rs : List Room} {k : Nat} {R : D} {l : List Nat} (hR : Has R l) (hn : rs.length ≤ 1000) : v_rim_of (dunD rs k) R = .ok (.tup ((lot rs.length (inRim rs fun u => decide (u ∈ l))).map nD)) := by
  unfold v_rim_of
  rw [dun0, okb, enum_rooms, okb, mapV_if (inRim rs fun u => decide (u ∈ l)) nD (fun v _ => by
    unfold vc_rim_of_1 inRim
    rw [un2_e, okb]
    dsimp only
    rw [hR.at, okb, rD0, okb, hR.mem, okb, nat_xor_t, nat_xor_f]
    show _ = Res.ok (if (!decide (v ∈ l) && (parOf rs v).any fun u => decide (u ∈ l)) = true then some (nD v) else none)
    generalize decide (v ∈ l) = a
    generalize (parOf rs v).any _ = b
    cases a <;> cases b <;> rfl) (by rw [List.length_range]; omega), okb, tupL, okb]
  rfl
end Lw

/-! VF: parts: judged, closed, opened. -/
namespace Lw
open PySem Pf
def v_is_integer (thing : D) : Res (D) :=
  (isiV "int" thing).bind fun b_1 => (if b_1 = true then (isiV "bool" thing).bind fun b_2 => Res.ok (!b_2) else Res.ok b_1).bind fun x_3 => Res.ok (D.bl x_3)
def vc_is_part_1 (dungeon : D) (d : D) : Res (Option D) :=
  (v_is_integer d).bind fun x_3 => (truV x_3).bind fun b_8 => (if b_8 = true then (leV (D.int 0) d).bind fun b_6 => (if b_6 = true then (idxV dungeon (D.int 0)).bind fun x_4 => (lenV x_4).bind fun x_5 => ltV d x_5 else Res.ok false).bind fun b_7 => Res.ok (D.bl b_7) else Res.ok x_3).bind fun x_9 => Res.ok (some x_9)
def vc_is_part_2 (d : D) : Res (Option D) :=
  (un2 d).bind fun t_15 => (ltV t_15.1 t_15.2).bind fun b_16 => Res.ok (some (D.bl b_16))
def vc_is_part_3 (dungeon : D) (laid : D) (thing : D) (d : D) : Res (Option D) :=
  (idxV laid (D.int 0)).bind fun x_24 => (v_is_in_rightly dungeon x_24 thing d).bind fun x_25 => Res.ok (some x_25)
def v_is_part (dungeon : D) (laid : D) (thing : D) : Res (D) :=
  (isiV "tuple" thing).bind fun b_1 => (if (!b_1) = true then Res.ok true else (itemsV thing).bind fun l_2 => (mapV (vc_is_part_1 dungeon) l_2).bind fun l_10 => (allV true (D.lst l_10)).bind fun b_11 => Res.ok (!b_11)).bind fun x_12 => if x_12 = true then Res.ok (D.bl false)
  else (sliV thing (some 1) none).bind fun x_14 => (zipV thing x_14).bind fun l_13 => (mapV (vc_is_part_2) l_13).bind fun l_17 => (allV true (D.lst l_17)).bind fun b_18 => (if (!b_18) = true then Res.ok true else (memV true (D.int 0) thing).bind fun b_19 => Res.ok b_19).bind fun x_20 => if x_20 = true then Res.ok (D.bl false)
  else (idxV dungeon (D.int 0)).bind fun x_22 => (lenV x_22).bind fun x_23 => (rng2V (D.int 1) x_23).bind fun l_21 => (mapV (vc_is_part_3 dungeon laid thing) l_21).bind fun l_26 => (allV true (D.lst l_26)).bind fun b_27 => Res.ok (D.bl b_27)
def vc_closed_part_2 (found : List D) (d : D) : Res (Option D) :=
  (memV true d (D.lst found)).bind fun b_6 => if b_6 = true then Res.ok (some d) else Res.ok none
def vb_closed_part_1 (dungeon : D) (d : D) (s : List D) : Res (List D) :=
  (v_way_to dungeon d).bind fun x_4 => (itemsV x_4).bind fun l_5 => (mapV (vc_closed_part_2 s) l_5).bind fun l_7 => (extV s (D.lst l_7)).bind fun found_8 => 
  Res.ok found_8
def vc_closed_part_4 (dungeon : D) (d : D) : Res (Option D) :=
  (idxV dungeon (D.int 0)).bind fun x_16 => (idxV x_16 d).bind fun x_17 => (idxV x_17 (D.int 1)).bind fun x_18 => (eqV x_18 (D.str "bar")).bind fun b_19 => Res.ok (some (D.bl b_19))
def vc_closed_part_5 (found : List D) (d : D) : Res (Option D) :=
  (memV true d (D.lst found)).bind fun b_26 => if b_26 = true then Res.ok (some d) else Res.ok none
def vc_closed_part_6 (dungeon : D) (big : D) (found : List D) (d : D) : Res (Option D) :=
  (v_is_in_rightly dungeon big (D.lst found) d).bind fun x_32 => (truV x_32).bind fun b_33 => if (!b_33) = true then Res.ok (some d) else Res.ok none
def vb_closed_part_3 (dungeon : D) (laid : D) (big : D) (s : List D) : Res (List D) :=
  (isnotV big D.non).bind fun b_14 => (if b_14 = true then (memV true big (D.lst s)).bind fun b_15 => (if b_15 = true then (mapV (vc_closed_part_4 dungeon) s).bind fun l_20 => (allV false (D.lst l_20)).bind fun b_21 => Res.ok b_21 else Res.ok false).bind fun x_22 => Res.ok x_22 else Res.ok false).bind fun x_23 => ((if x_23 = true then (v_way_to dungeon big).bind fun x_24 => (itemsV x_24).bind fun l_25 => (mapV (vc_closed_part_5 s) l_25).bind fun l_27 => (extV s (D.lst l_27)).bind fun found_28 => 
  Res.ok found_28 else Res.ok s : Res (List D))).bind fun found_29 => 
  (v_rim_of dungeon (D.lst found_29)).bind fun x_30 => (itemsV x_30).bind fun l_31 => (mapV (vc_closed_part_6 dungeon big found_29) l_31).bind fun l_34 => (extV found_29 (D.lst l_34)).bind fun found_35 => 
  Res.ok found_35
def vt_closed_part_3 (dungeon : D) (laid : D) (big : D) (s : List D) : Res Bool :=
  (sortV (D.lst s)).bind fun l_10 => (tupV (D.lst l_10)).bind fun x_11 => (v_is_part dungeon laid x_11).bind fun x_12 => (truV x_12).bind fun b_13 => Res.ok (!b_13)
def v_closed_part (dungeon : D) (laid : D) (rooms : D) : Res (D) :=
  (idxV laid (D.int 0)).bind fun x_1 => (Res.ok ([(D.int 0)])).bind fun found_2 => 
  (itemsV rooms).bind fun l_3 => (foldV (vb_closed_part_1 dungeon) l_3 found_2).bind fun found_9 => 
  (whlV (vt_closed_part_3 dungeon laid x_1) (vb_closed_part_3 dungeon laid x_1) WF found_9).bind fun found_36 => 
  (sortV (D.lst found_36)).bind fun l_37 => (tupV (D.lst l_37)).bind fun x_38 => Res.ok x_38
def vb_opened_part_2 (dungeon : D) (rooms : D) (big : D) (found : List D) (d : D) (s : List D) : Res (List D) :=
  (idxV dungeon (D.int 0)).bind fun x_9 => (idxV x_9 d).bind fun x_10 => (idxV x_10 (D.int 1)).bind fun x_11 => 
  (eqV x_11 (D.str "open")).bind fun b_12 => (if b_12 = true then Res.ok true else (eqV x_11 (D.str "lock")).bind fun b_13 => (if b_13 = true then (memV false d rooms).bind fun b_14 => Res.ok b_14 else Res.ok false).bind fun x_15 => (if x_15 = true then Res.ok true else (eqV x_11 (D.str "bar")).bind fun b_16 => (if b_16 = true then (memV false big (D.lst found)).bind fun b_17 => Res.ok b_17 else Res.ok false).bind fun x_18 => Res.ok x_18).bind fun x_19 => Res.ok x_19).bind fun x_20 => ((if x_20 = true then (appV s d).bind fun more_21 => 
  Res.ok more_21 else Res.ok s : Res (List D))).bind fun more_22 => 
  Res.ok more_22
def vb_opened_part_1 (dungeon : D) (rooms : D) (big : D) (s : List D × List D) : Res (List D × List D) :=
  (extV s.1 (D.lst s.2)).bind fun found_5 => 
  (Res.ok []).bind fun more_6 => 
  (v_rim_of dungeon (D.lst found_5)).bind fun x_7 => (itemsV x_7).bind fun l_8 => (foldV (vb_opened_part_2 dungeon rooms big found_5) l_8 more_6).bind fun more_23 => 
  Res.ok (found_5, more_23)
def vt_opened_part_1 (dungeon : D) (rooms : D) (big : D) (s : List D × List D) : Res Bool :=
  (neV (D.lst s.2) (D.lst [])).bind fun b_4 => Res.ok b_4
def v_opened_part (dungeon : D) (laid : D) (rooms : D) : Res (D) :=
  (idxV laid (D.int 0)).bind fun x_1 => (Res.ok []).bind fun found_2 => (Res.ok ([(D.int 0)])).bind fun more_3 => 
  (whlV (vt_opened_part_1 dungeon rooms x_1) (vb_opened_part_1 dungeon rooms x_1) WF (found_2, more_3)).bind fun s_24 => 
  (sortV (D.lst s_24.1)).bind fun l_25 => (tupV (D.lst l_25)).bind fun x_26 => Res.ok x_26
def vb__law_come_to_2 (big : D) (locks : D) (d : D) (s : List D) : Res (List D) :=
  (un2 d).bind fun t_7 => (un3 t_7.2).bind fun t_8 => (eqV t_8.2.1 (D.str "open")).bind fun b_9 => (if b_9 = true then Res.ok b_9 else (eqV t_8.2.1 (D.str "lock")).bind fun b_10 => (if b_10 = true then (memV false t_7.1 locks).bind fun b_11 => Res.ok b_11 else Res.ok b_10).bind fun x_12 => (if x_12 = true then Res.ok x_12 else (eqV t_8.2.1 (D.str "bar")).bind fun b_13 => (if b_13 = true then (memV false big (D.lst s)).bind fun b_14 => Res.ok b_14 else Res.ok b_13).bind fun x_15 => Res.ok x_15).bind fun x_16 => Res.ok x_16).bind fun x_17 => 
  (memV true t_7.1 (D.lst s)).bind fun b_18 => (if b_18 = true then (memV false t_8.1 (D.lst s)).bind fun b_19 => (if b_19 = true then (truV (D.bl x_17)).bind fun b_20 => Res.ok b_20 else Res.ok false).bind fun x_21 => Res.ok x_21 else Res.ok false).bind fun x_22 => ((if x_22 = true then (appV s t_7.1).bind fun found_23 => 
  Res.ok found_23 else Res.ok s : Res (List D))).bind fun found_24 => 
  Res.ok found_24
def vb__law_come_to_1 (dungeon : D) (big : D) (locks : D) (d : D) (s : List D) : Res (List D) :=
  (idxV dungeon (D.int 0)).bind fun x_6 => (datV (enumL 0) x_6).bind fun l_5 => (foldV (vb__law_come_to_2 big locks) l_5 s).bind fun found_25 => 
  Res.ok found_25
def v__law_come_to (dungeon : D) (big : D) (locks : D) : Res (D) :=
  (Res.ok ([(D.int 0)])).bind fun found_1 => 
  (idxV dungeon (D.int 0)).bind fun x_3 => (lenV x_3).bind fun x_4 => (rng1V x_4).bind fun l_2 => (foldV (vb__law_come_to_1 dungeon big locks) l_2 found_1).bind fun found_26 => 
  (sortV (D.lst found_26)).bind fun l_27 => (tupV (D.lst l_27)).bind fun x_28 => Res.ok x_28
/-! ### a part -/
def isPartB (rs : List Room) (big : Option Nat) (q : Nat → Bool) : Bool := q 0 && (List.range (rs.length - 1)).all fun i => rightly rs big q (1 + i)
theorem isPartB_iff {rs : List Room} {big : Option Nat} {q : Nat → Bool} : isPartB rs big q = true ↔ q 0 = true ∧ ∀ v, 0 < v → v < rs.length → rightly rs big q v = true := by
  unfold isPartB
  rw [Bool.and_eq_true, List.all_eq_true]
  refine ⟨fun h => ⟨h.1, fun v h0 hv => ?_⟩, fun h => ⟨h.1, fun i hi => ?_⟩⟩
  · have := h.2 (v - 1) (List.mem_range.mpr (by omega))
    rwa [show 1 + (v - 1) = v by omega] at this
  · exact h.2 (1 + i) (by omega) (by have := List.mem_range.mp hi; omega)
theorem isint_nat (v : Nat) : v_is_integer (nD v) = .ok (.bl true) := (rfl)
theorem asc_pairs : ∀ l : List Nat, l.Pairwise (· < ·) → ∀ p ∈ l.zip l.tail, p.1 < p.2
  | [], _, p, hp => by simp at hp
  | [a], _, p, hp => by simp at hp
  | a :: b :: l, h, p, hp => by
    rw [List.pairwise_cons] at h
    have hp : p = (a, b) ∨ p ∈ (b :: l).zip l := by simpa using hp
    rcases hp with z | z
    · subst z; exact h.1 b List.mem_cons_self
    · exact asc_pairs (b :: l) h.2 p z
theorem cut_tail (ds : List D) : Pf.cutD ds (some 1) none = ds.tail := by
  unfold Pf.cutD HT.sIx
  cases ds with
  | nil => rfl
  | cons d ds =>
    simp
theorem sli_tail (ds : List D) : sliV (.tup ds) (some 1) none = .ok (.tup ds.tail) := by
  unfold sliV
  show Res.ok (D.tup (Pf.cutD ds (some 1) none)) = _
  rw [cut_tail]
theorem zip_tup (a b : List D) : zipV (.tup a) (.tup b) = .ok (List.zipWith (fun x y => .tup [x, y]) a b) := (rfl)
theorem is_part_spec {rs : List Room} {k : Nat} {big : Option Nat} {small : List Nat} {l : List Nat} (hl : Lot rs.length l) (hn : rs.length ≤ 1000) (hpos : 0 < rs.length) : v_is_part (dunD rs k) (laidD big small) (.tup (l.map nD)) = .ok (.bl (isPartB rs big fun v => decide (v ∈ l))) := by
  have hlen := hl.len
  unfold v_is_part
  have e1 : isiV "tuple" (.tup (l.map nD)) = .ok true := rfl
  have e2 : mapV (vc_is_part_1 (dunD rs k)) (l.map nD) = .ok ((l.map fun _ => true).map D.bl) := by
    rw [mapV_map (fun _ => D.bl true) (fun v hv => by
      have := hl.lt v hv
      unfold vc_is_part_1
      rw [isint_nat, okb, truV_bl, okb, if_pos rfl, dun0]
      rw [show leV (.int 0) (nD v) = .ok true by rw [le_intV, decide_eq_false (by omega)]; rfl]
      rw [okb, if_pos rfl, okb, len_rooms, okb]
      rw [show ltV (nD v) (nD rs.length) = .ok true by rw [lt_intV, decide_eq_true (by omega)]]
      rfl) (by omega), List.map_map]
    rfl
  have e3 : mapV vc_is_part_2 (List.zipWith (fun x y => D.tup [x, y]) (l.map nD) (l.map nD).tail) = .ok (((l.zip l.tail).map fun _ => true).map D.bl) := by
    have ez : List.zipWith (fun x y => D.tup [x, y]) (l.map nD) (l.map nD).tail = (l.zip l.tail).map fun p => .tup [nD p.1, nD p.2] := by
      rw [← List.map_tail, List.zipWith_map, List.zip, List.map_zipWith]
    rw [ez, mapV_map (fun _ => D.bl true) (fun p hp => by
      have := asc_pairs l hl.sorted p hp
      unfold vc_is_part_2
      rw [un2_e, okb]
      rw [show ltV (nD p.1) (nD p.2) = .ok true by rw [lt_intV, decide_eq_true (by omega)]]
      rfl) (by rw [List.length_zip]; omega), List.map_map]
    rfl
  have e4 : rng2V (.int 1) (nD rs.length) = .ok ((List.range (rs.length - 1)).map fun (i : Nat) => nD (1 + i)) := by
    rw [rng2_nat (by omega) (by omega) (by omega) (by omega), show ((rs.length : Int) - 1).toNat = rs.length - 1 by omega]
    rfl
  have e5 : mapV (vc_is_part_3 (dunD rs k) (laidD big small) (.tup (l.map nD))) ((List.range (rs.length - 1)).map fun (i : Nat) => nD (1 + i)) = .ok (((List.range (rs.length - 1)).map fun i => rightly rs big (fun v => decide (v ∈ l)) (1 + i)).map D.bl) := by
    rw [mapV_map (fun i => D.bl (rightly rs big (fun v => decide (v ∈ l)) (1 + i))) (fun i hi => by
      have := List.mem_range.mp hi
      unfold vc_is_part_3
      rw [laid0, okb, rightly_spec (has_tup l) (by omega), okb]) (by rw [List.length_range]; omega), List.map_map]
    rfl
  have m0 : memV true (.int 0) (.tup (l.map nD)) = .ok (!decide (0 ∈ l)) := by
    have := mem_tupN true 0 l
    rw [nat_xor_t] at this
    exact this
  have a1 : ((l.map fun _ => true).all id) = true := by rw [List.all_map]; simp
  have a2 : (((l.zip l.tail).map fun _ => true).all id) = true := by rw [List.all_map]; simp
  have a3 : (((List.range (rs.length - 1)).map fun i => rightly rs big (fun v => decide (v ∈ l)) (1 + i)).all id) = ((List.range (rs.length - 1)).all fun i => rightly rs big (fun v => decide (v ∈ l)) (1 + i)) := by rw [List.all_map]; rfl
  rw [e1, okb, if_neg (by simp), itemsV_tup, okb, e2, okb, allV_t, a1, okb, okb, if_neg (by simp), sli_tail, okb, zip_tup, okb, e3, okb, allV_t, a2, okb, if_neg (by simp), m0, okb, okb]
  unfold isPartB
  by_cases h0 : 0 ∈ l
  · rw [if_neg (by simp [h0]), dun0, okb, len_rooms, okb, e4, okb, e5, okb, allV_t, okb, a3]
    simp [h0]
  · rw [if_pos (by simp [h0])]
    try simp [h0]
/-! ### the least part that has some rooms -/
/-- with each room its parent -/
def Up (rs : List Room) (l : List Nat) : Prop := ∀ u p, u ∈ l → parOf rs u = some p → p ∈ l
structure Cl (rs : List Room) (big : Option Nat) (lot found : List Nat) : Prop where
  nodup : found.Nodup
  lt : ∀ v ∈ found, v < rs.length
  zero : 0 ∈ found
  up : Up rs found
  least : ∀ q, isPartB rs big q = true → (∀ v ∈ lot, q v = true) → ∀ v ∈ found, q v = true
theorem mem_filter_not {l m : List Nat} {v : Nat} : v ∈ l.filter (fun u => !decide (u ∈ m)) ↔ v ∈ l ∧ v ∉ m := by rw [List.mem_filter]; simp
theorem part_up {rs : List Room} (g : Rms rs) {big : Option Nat} {q : Nat → Bool} (h : isPartB rs big q = true) : ∀ u p, q u = true ∧ u < rs.length → parOf rs u = some p → q p = true ∧ p < rs.length := by
  intro u p hu hp
  obtain ⟨h1, h2⟩ := g.par_lt hp
  have hr := (isPartB_iff.mp h).2 u (by omega) hu.2
  unfold rightly rightlyB at hr
  rw [if_pos hu.1, hp, Bool.and_eq_true] at hr
  exact ⟨hr.1, by omega⟩
theorem part_ups {rs : List Room} (g : Rms rs) {big : Option Nat} {q : Nat → Bool} (h : isPartB rs big q = true) {v : Nat} (hv : v < rs.length) (hq : q v = true) : ∀ u ∈ ups rs v, q u = true := fun u hu =>
  (ups_in g (P := fun u => q u = true ∧ u < rs.length) (part_up g h) v v (Nat.le_refl _) ⟨hq, hv⟩ u hu).1
/-- the way of a room of each such part is added -/
theorem Cl.addWay {rs : List Room} (g : Rms rs) {big : Option Nat} {lot found : List Nat} (c : Cl rs big lot found) {v : Nat} (hv : v < rs.length) (hq : ∀ q, isPartB rs big q = true → (∀ v ∈ lot, q v = true) → q v = true) :
    Cl rs big lot (found ++ (wayL rs v).filter fun u => !decide (u ∈ found)) ∧ v ∈ found ++ (wayL rs v).filter fun u => !decide (u ∈ found) := by
  have mem : ∀ u, u ∈ found ++ (wayL rs v).filter (fun u => !decide (u ∈ found)) ↔ u ∈ found ∨ u ∈ ups rs v := fun u => by
    rw [List.mem_append, mem_filter_not, wayL_mem g hv]
    by_cases h : u ∈ found <;> simp [h]
  refine ⟨⟨List.nodup_append.mpr ⟨c.nodup, lot_nodup.filter _, fun a ha b hb e => ?_⟩, fun u hu => ?_, List.mem_append_left _ c.zero, fun u p hu hp => ?_, fun q h1 h2 u hu => ?_⟩, (mem v).mpr (.inr (ups_self g v))⟩
  · subst e
    exact (mem_filter_not.mp hb).2 ha
  · rcases (mem u).mp hu with z | z
    · exact c.lt u z
    · exact ups_lt g hv u z
  · rcases (mem u).mp hu with z | z
    · exact (mem p).mpr (.inl (c.up u p z hp))
    · exact (mem p).mpr (.inr (ups_par g v v (Nat.le_refl _) u z p hp))
  · rcases (mem u).mp hu with z | z
    · exact c.least q h1 h2 u z
    · exact part_ups g h1 hv (hq q h1 h2) u z
theorem Cl.start {rs : List Room} (g : Rms rs) {big : Option Nat} {lot : List Nat} : Cl rs big lot [0] := by
  have hz : ∀ {v : Nat}, v ∈ [0] → v = 0 := fun {v} h => by simpa using h
  refine ⟨by simp, fun v hv => by rw [hz hv]; exact g.pos, by simp, fun u p hu hp => ?_, fun q h _ v hv => by rw [hz hv]; exact (isPartB_iff.mp h).1⟩
  rw [hz hu, g.par0] at hp
  cases hp
theorem Cl.len {rs : List Room} {big : Option Nat} {lot found : List Nat} (c : Cl rs big lot found) : found.length ≤ rs.length := nodup_len c.nodup c.lt
theorem filter_way {rs : List Room} {f : List D → D → Res (Option D)} (hf : ∀ found d, f found d = (memV true d (D.lst found)).bind fun b_6 => if b_6 = true then Res.ok (some d) else Res.ok none) (found l : List Nat) (hl : l.length ≤ 1000000) : mapV (f (found.map nD)) (l.map nD) = .ok ((l.filter fun u => !decide (u ∈ found)).map nD) :=
  mapV_if (fun u => !decide (u ∈ found)) nD (fun u _ => by
    rw [hf, mem_lstN, okb, nat_xor_t]
    by_cases h : u ∈ found <;> simp [h]) hl
theorem wayL_len {rs : List Room} {v : Nat} : (wayL rs v).length ≤ rs.length := lot_len
theorem filter_len {p : Nat → Bool} (l : List Nat) : (l.filter p).length ≤ l.length := List.length_filter_le _ _
theorem closed_first {rs : List Room} {k : Nat} (g : Rms rs) (hn : rs.length ≤ 1000) {big : Option Nat} {lot : List Nat} : ∀ (l found : List Nat), (∀ v ∈ l, v < rs.length) → (∀ v ∈ l, v ∈ lot) → Cl rs big lot found →
    ∃ found', foldV (vb_closed_part_1 (dunD rs k)) (l.map nD) (found.map nD) = .ok (found'.map nD) ∧ Cl rs big lot found' ∧ (∀ v ∈ found, v ∈ found') ∧ ∀ v ∈ l, v ∈ found'
  | [], found, _, _, c => ⟨found, rfl, c, fun _ h => h, fun _ h => absurd h (by simp)⟩
  | v :: l, found, hl, hs, c => by
    have hv := hl v List.mem_cons_self
    obtain ⟨c1, h1⟩ := c.addWay g hv fun q _ h2 => h2 v (hs v List.mem_cons_self)
    obtain ⟨found', e, c2, h2, h3⟩ := closed_first (k := k) g hn l _ (fun u hu => hl u (List.mem_cons_of_mem _ hu)) (fun u hu => hs u (List.mem_cons_of_mem _ hu)) c1
    refine ⟨found', ?_, c2, fun u hu => h2 u (List.mem_append_left _ hu), fun u hu => ?_⟩
    · have hw := wayL_len (rs := rs) (v := v)
      have hc := c.len
      have e1 : vb_closed_part_1 (dunD rs k) (nD v) (found.map nD) = .ok ((found ++ (wayL rs v).filter fun u => !decide (u ∈ found)).map nD) := by
        unfold vb_closed_part_1
        rw [way_to_spec g hn hv, okb, itemsV_tup, okb, filter_way (rs := rs) (f := vc_closed_part_2) (fun _ _ => rfl) found _ (by omega), okb, ext_ok (by
          rw [List.length_map, List.length_map]
          have := filter_len (p := fun u => !decide (u ∈ found)) (wayL rs v)
          omega), okb, List.map_append]
      rw [List.map_cons, foldV, e1, okb]
      exact e
    · rcases List.mem_cons.mp hu with z | z
      · subst z; exact h2 _ h1
      · exact h3 u z
theorem rim_bool : ∀ c c' d e x : Bool, rightlyB false true c d e = false → rightlyB x true c' d e = true → (c = true → c' = true) → x = true := by decide
/-- what is not yet a part has a room that is added -/
theorem Cl.addRim {rs : List Room} (g : Rms rs) {big : Option Nat} {lot' found : List Nat} (c : Cl rs big lot' found) :
    Cl rs big lot' (found ++ (lot rs.length (inRim rs fun u => decide (u ∈ found))).filter fun v => !rightly rs big (fun u => decide (u ∈ found)) v) := by
  have mem : ∀ v, v ∈ (lot rs.length (inRim rs fun u => decide (u ∈ found))).filter (fun v => !rightly rs big (fun u => decide (u ∈ found)) v) → v < rs.length ∧ v ∉ found ∧ (∃ p, parOf rs v = some p ∧ p ∈ found) ∧ rightly rs big (fun u => decide (u ∈ found)) v = false := fun v hv => by
    obtain ⟨h1, h2⟩ := List.mem_filter.mp hv
    obtain ⟨h3, h4⟩ := lot_mem.mp h1
    unfold inRim at h4
    rw [Bool.and_eq_true] at h4
    refine ⟨h3, by simpa using h4.1, ?_, by simpa using h2⟩
    cases hp : parOf rs v with
    | none => rw [hp] at h4; simp at h4
    | some p => rw [hp] at h4; exact ⟨p, rfl, by simpa using h4.2⟩
  refine ⟨List.nodup_append.mpr ⟨c.nodup, lot_nodup.filter _, fun a ha b hb e => ?_⟩, fun u hu => ?_, List.mem_append_left _ c.zero, fun u p hu hp => ?_, fun q h1 h2 u hu => ?_⟩
  · subst e
    exact (mem a hb).2.1 ha
  · rcases List.mem_append.mp hu with z | z
    · exact c.lt u z
    · exact (mem u z).1
  · rcases List.mem_append.mp hu with z | z
    · exact List.mem_append_left _ (c.up u p z hp)
    · obtain ⟨p', h3, h4⟩ := (mem u z).2.2.1
      rw [hp] at h3; cases h3
      exact List.mem_append_left _ h4
  · rcases List.mem_append.mp hu with z | z
    · exact c.least q h1 h2 u z
    · obtain ⟨hu1, hu2, ⟨p, hp, hpf⟩, hr⟩ := mem u z
      have hqp := c.least q h1 h2 p hpf
      have hu0 : 0 < u := by
        rcases Nat.eq_zero_or_pos u with e | e
        · subst e; rw [g.par0] at hp; cases hp
        · exact e
      have hru := (isPartB_iff.mp h1).2 u hu0 hu1
      have d1 : decide (u ∈ found) = false := by simpa using hu2
      have d2 : ((some p).any fun u => decide (u ∈ found)) = true := by simpa using hpf
      have d3 : ((some p).any q) = true := hqp
      have hr : rightlyB (decide (u ∈ found)) ((some p).any fun u => decide (u ∈ found)) (big.any fun u => decide (u ∈ found)) (decide (wayOf rs u = .bar)) (decide (wayOf rs u = .lck)) = false := by rw [← hp]; exact hr
      have hru : rightlyB (q u) ((some p).any q) (big.any q) (decide (wayOf rs u = .bar)) (decide (wayOf rs u = .lck)) = true := by rw [← hp]; exact hru
      rw [d1, d2] at hr
      rw [d3] at hru
      refine rim_bool _ _ _ _ _ hr hru fun hb => ?_
      cases big with
      | none => cases hb
      | some x => exact c.least q h1 h2 x (by simpa using hb)
theorem any_bar {rs : List Room} {k : Nat} {found : List Nat} (hl : ∀ v ∈ found, v < rs.length) (hz : found.length ≤ 1000000) : mapV (vc_closed_part_4 (dunD rs k)) (found.map nD) = .ok ((found.map fun v => decide (wayOf rs v = .bar)).map D.bl) := by
  rw [mapV_map (fun v => D.bl (decide (wayOf rs v = .bar))) (fun v hv => by
    unfold vc_closed_part_4
    rw [dun0, okb, ix_room (hl v hv), okb, rD1, okb, way_bar, okb]) hz, List.map_map]
  rfl
theorem lot_in {n : Nat} {l : List Nat} (h : ∀ v ∈ l, v < n) : (fun v => decide (v ∈ lot n fun u => decide (u ∈ l))) = fun v => decide (v ∈ l) := by
  funext v
  rw [decide_eq_decide, lot_mem, decide_eq_true_eq]
  exact ⟨fun z => z.2, fun z => ⟨h v z, z⟩⟩
theorem closed_test {rs : List Room} {k : Nat} (g : Rms rs) (hn : rs.length ≤ 1000) {big : Option Nat} {small : List Nat} {lot' found : List Nat} (c : Cl rs big lot' found) : vt_closed_part_3 (dunD rs k) (laidD big small) (oD big) (found.map nD) = .ok (!isPartB rs big fun v => decide (v ∈ found)) := by
  unfold vt_closed_part_3
  rw [sortN c.nodup c.lt (by omega), okb, tupL, okb, is_part_spec lot_lot hn g.pos, okb, truV_bl, okb]
  rw [lot_in c.lt]
/-! the second loop -/
theorem closed_turn {rs : List Room} {k : Nat} (g : Rms rs) (hn : rs.length ≤ 1000) {big : Option Nat} {small : List Nat} (hL : Laid rs big small) {lot' found : List Nat} (c : Cl rs big lot' found) (hp : isPartB rs big (fun v => decide (v ∈ found)) = false) :
    ∃ found', vb_closed_part_3 (dunD rs k) (laidD big small) (oD big) (found.map nD) = .ok (found'.map nD) ∧ Cl rs big lot' found' ∧ (∀ v ∈ found, v ∈ found') ∧ found.length < found'.length := by
  have hfl := c.len
  -- the first step: the big key's way
  obtain ⟨f1, e1, c1, s1, l1, w1⟩ : ∃ f1 : List Nat, ((isnotV (oD big) D.non).bind fun b_14 => (if b_14 = true then (memV true (oD big) (D.lst (found.map nD))).bind fun b_15 => (if b_15 = true then (mapV (vc_closed_part_4 (dunD rs k)) (found.map nD)).bind fun l_20 => (allV false (D.lst l_20)).bind fun b_21 => Res.ok b_21 else Res.ok false).bind fun x_22 => Res.ok x_22 else Res.ok false).bind fun x_23 => ((if x_23 = true then (v_way_to (dunD rs k) (oD big)).bind fun x_24 => (itemsV x_24).bind fun l_25 => (mapV (vc_closed_part_5 (found.map nD)) l_25).bind fun l_27 => (extV (found.map nD) (D.lst l_27)).bind fun found_28 =>
      Res.ok found_28 else Res.ok (found.map nD) : Res (List D)))) = .ok (f1.map nD) ∧ Cl rs big lot' f1 ∧ (∀ v ∈ found, v ∈ f1) ∧ found.length ≤ f1.length ∧ (found.length < f1.length ∨ (f1 = found ∧ ∀ v ∈ found, wayOf rs v = .bar → big.any (fun u => decide (u ∈ found)) = true)) := by
    have same : ∀ h : (∀ v ∈ found, wayOf rs v = .bar → big.any (fun u => decide (u ∈ found)) = true), ∃ f1 : List Nat, Res.ok (found.map nD) = .ok (f1.map nD) ∧ Cl rs big lot' f1 ∧ (∀ v ∈ found, v ∈ f1) ∧ found.length ≤ f1.length ∧ (found.length < f1.length ∨ (f1 = found ∧ ∀ v ∈ found, wayOf rs v = .bar → big.any (fun u => decide (u ∈ found)) = true)) := fun h => ⟨found, rfl, c, fun _ z => z, Nat.le_refl _, .inr ⟨rfl, h⟩⟩
    rw [isnot_non, isNon_oD, okb]
    cases hb : big with
    | none =>
      rw [if_neg (by simp), okb, if_neg (by simp)]
      rw [hb] at same
      refine hb ▸ same fun v hv hw => ?_
      have : isBarred rs = true := isBarred_iff.mpr ⟨v, c.lt v hv, hw⟩
      obtain ⟨x, hx, _⟩ := hL.barred this
      rw [hb] at hx; cases hx
    | some x =>
      have hx := hL.lt hb
      rw [if_pos (by rfl), mem_lstO, okb, nat_xor_t]
      by_cases hxf : x ∈ found
      · have hc : (!((some x).any fun v => decide (v ∈ found))) = false := by simpa using hxf
        rw [hc, if_neg (by simp), okb, okb, if_neg (by simp)]
        rw [hb] at same
        exact hb ▸ same fun v hv hw => by simpa using hxf
      · have hc : (!((some x).any fun v => decide (v ∈ found))) = true := by simpa using hxf
        rw [hc, if_pos rfl, any_bar c.lt (by omega), okb, allV_f, okb, okb, okb]
        by_cases hbar : ∃ v ∈ found, wayOf rs v = .bar
        · obtain ⟨v, hv, hw⟩ := hbar
          have ha : ((found.map fun v => decide (wayOf rs v = .bar)).any id) = true := List.any_eq_true.mpr ⟨true, List.mem_map.mpr ⟨v, hv, decide_eq_true hw⟩, rfl⟩
          rw [ha, if_pos rfl]
          have hw' := wayL_len (rs := rs) (v := x)
          obtain ⟨c1, h1⟩ := c.addWay g hx fun q h1 h2 => by
            have hq := c.least q h1 h2 v hv
            have hv0 : 0 < v := by
              rcases Nat.eq_zero_or_pos v with e | e
              · subst e; rw [g.way0] at hw; cases hw
              · exact e
            have := (isPartB_iff.mp h1).2 v hv0 (c.lt v hv)
            unfold rightly rightlyB at this
            rw [if_pos hq, decide_eq_true hw, hb, Bool.and_eq_true] at this
            simpa using this.2
          show ∃ f1 : List Nat, (v_way_to (dunD rs k) (nD x)).bind _ = _ ∧ _
          rw [way_to_spec g hn hx, okb, itemsV_tup, okb, filter_way (rs := rs) (f := vc_closed_part_5) (fun _ _ => rfl) found _ (by omega), okb, ext_ok (by
            rw [List.length_map, List.length_map]
            have := filter_len (p := fun u => !decide (u ∈ found)) (wayL rs x)
            omega), okb, ← List.map_append]
          refine ⟨_, rfl, hb ▸ c1, fun u hu => List.mem_append_left _ hu, by rw [List.length_append]; omega, .inl ?_⟩
          rw [List.length_append]
          have : 0 < ((wayL rs x).filter fun u => !decide (u ∈ found)).length := List.length_pos_of_mem (mem_filter_not.mpr ⟨(wayL_mem g hx).mpr (ups_self g x), hxf⟩)
          omega
        · have ha : ((found.map fun v => decide (wayOf rs v = .bar)).any id) = false := by
            rw [List.any_map, List.any_eq_false]
            intro v hv
            simp only [Function.comp, id, decide_eq_true_eq]
            exact fun z => hbar ⟨v, hv, z⟩
          rw [ha, if_neg (by simp)]
          rw [hb] at same
          exact hb ▸ same fun v hv hw => absurd ⟨v, hv, hw⟩ hbar
  have c2 := c1.addRim g
  have hl1 := c1.len
  have hrl := lot_len (n := rs.length) (p := inRim rs fun u => decide (u ∈ f1))
  have er : mapV (vc_closed_part_6 (dunD rs k) (oD big) (f1.map nD)) ((lot rs.length (inRim rs fun u => decide (u ∈ f1))).map nD) = .ok (((lot rs.length (inRim rs fun u => decide (u ∈ f1))).filter fun v => !rightly rs big (fun u => decide (u ∈ f1)) v).map nD) :=
    mapV_if (fun v => !rightly rs big (fun u => decide (u ∈ f1)) v) nD (fun v hv => by
      have hv := (lot_mem.mp hv).1
      unfold vc_closed_part_6
      rw [rightly_spec (has_lst f1) hv, okb, truV_bl, okb]
      cases rightly rs big (fun u => decide (u ∈ f1)) v <;> rfl) (by omega)
  refine ⟨_, ?_, c2, fun v hv => List.mem_append_left _ (s1 v hv), ?_⟩
  · have e2 : ∀ (X : Res Bool) (Y : Bool → Res (List D)) (Z : List D → Res (List D)), (X.bind fun x => (Y x).bind Z) = (X.bind Y).bind Z := fun X Y Z => (bind_as X Y Z).symm
    unfold vb_closed_part_3
    rw [← bind_as] at e1
    rw [← bind_as, e2, e1, okb, rim_spec (has_lst f1) hn, okb, itemsV_tup, okb, er, okb, ext_ok (by
      rw [List.length_map, List.length_map]
      have := filter_len (p := fun v => !rightly rs big (fun u => decide (u ∈ f1)) v) (lot rs.length (inRim rs fun u => decide (u ∈ f1)))
      omega), okb, ← List.map_append]
  · rw [List.length_append]
    rcases w1 with w1 | ⟨rfl, w1⟩
    · omega
    · -- not a part: some room is not rightly in or out
      have : ∃ v, 0 < v ∧ v < rs.length ∧ rightly rs big (fun u => decide (u ∈ f1)) v = false := by
        refine Classical.byContradiction fun hne => ?_
        have : isPartB rs big (fun v => decide (v ∈ f1)) = true := isPartB_iff.mpr ⟨by simpa using c.zero, fun v h0 hv => by
          cases h : rightly rs big (fun u => decide (u ∈ f1)) v with
          | true => rfl
          | false => exact absurd ⟨v, h0, hv, h⟩ hne⟩
        rw [this] at hp; cases hp
      obtain ⟨v, h0, hv, hr⟩ := this
      obtain ⟨p, hpp, hpv, _⟩ := g.par hv h0
      have hr' : rightlyB (decide (v ∈ f1)) ((some p).any fun u => decide (u ∈ f1)) (big.any fun u => decide (u ∈ f1)) (decide (wayOf rs v = .bar)) (decide (wayOf rs v = .lck)) = false := by rw [← hpp]; exact hr
      have hmem : v ∈ (lot rs.length (inRim rs fun u => decide (u ∈ f1))).filter fun v => !rightly rs big (fun u => decide (u ∈ f1)) v := by
        rw [List.mem_filter, lot_mem]
        refine ⟨⟨hv, ?_⟩, by rw [hr]; rfl⟩
        unfold inRim
        rw [hpp]
        by_cases hvf : v ∈ f1
        · -- then its parent is in, and where it is a bar the big key is
          exfalso
          have d1 : decide (v ∈ f1) = true := by simpa using hvf
          have d2 : ((some p).any fun u => decide (u ∈ f1)) = true := by simpa using c.up v p hvf hpp
          rw [d1, d2] at hr'
          by_cases hw : wayOf rs v = .bar
          · rw [w1 v hvf hw] at hr'
            revert hr'
            generalize decide (wayOf rs v = .bar) = d
            generalize decide (wayOf rs v = .lck) = e
            revert d e
            decide
          · rw [decide_eq_false hw] at hr'
            revert hr'
            generalize (big.any fun u => decide (u ∈ f1)) = d
            generalize decide (wayOf rs v = .lck) = e
            revert d e
            decide
        · have d1 : decide (v ∈ f1) = false := by simpa using hvf
          rw [d1] at hr'
          show (!decide (v ∈ f1) && (some p).any fun u => decide (u ∈ f1)) = true
          rw [d1]
          cases hd : (some p).any fun u => decide (u ∈ f1) with
          | true => rfl
          | false =>
            rw [hd] at hr'
            revert hr'
            generalize (big.any fun u => decide (u ∈ f1)) = c
            generalize decide (wayOf rs v = .bar) = d
            generalize decide (wayOf rs v = .lck) = e
            revert c d e
            decide
      have := List.length_pos_of_mem hmem
      omega
theorem closed_spec {rs : List Room} {k : Nat} (g : Rms rs) (hn : rs.length ≤ 1000) {big : Option Nat} {small : List Nat} (hL : Laid rs big small) {l : List Nat} (hl : ∀ v ∈ l, v < rs.length) (hz : l.length ≤ 1000000) :
    ∃ found, v_closed_part (dunD rs k) (laidD big small) (.tup (l.map nD)) = .ok (.tup ((lot rs.length fun v => decide (v ∈ found)).map nD)) ∧ Cl rs big l found ∧ (∀ v ∈ l, v ∈ found) ∧ isPartB rs big (fun v => decide (v ∈ found)) = true := by
  obtain ⟨f1, e1, c1, _, h1⟩ := closed_first (k := k) (big := big) (lot := l) g hn l [0] hl (fun _ h => h) (Cl.start g)
  obtain ⟨s', m', e2, ⟨f2, rfl, c2, h2, _⟩, e3⟩ := whlV_inv (fun m (s : List D) => ∃ f : List Nat, s = f.map nD ∧ Cl rs big l f ∧ (∀ v ∈ l, v ∈ f) ∧ m = rs.length - f.length) (c := vt_closed_part_3 (dunD rs k) (laidD big small) (oD big)) (f := vb_closed_part_3 (dunD rs k) (laidD big small) (oD big)) (fun m s hs => by
    obtain ⟨f, rfl, c, h, rfl⟩ := hs
    rw [closed_test g hn c]
    cases hp : isPartB rs big fun v => decide (v ∈ f) with
    | true => exact .inl ⟨rfl, True, trivial⟩
    | false =>
      obtain ⟨f', e, c', hs', hlt⟩ := closed_turn (k := k) g hn hL c hp
      have := c'.len
      exact .inr ⟨rfl, _, _, e, ⟨f', rfl, c', fun v hv => hs' v (h v hv), rfl⟩, by omega⟩) WF (rs.length - f1.length) (f1.map nD) ⟨f1, rfl, c1, h1, rfl⟩ (by unfold WF; omega)
  refine ⟨f2, ?_, c2, h2, ?_⟩
  · unfold v_closed_part
    show (idxV (laidD big small) (.int 0)).bind _ = _
    rw [laid0, okb, okb, itemsV_tup, okb]
    show (foldV _ _ (List.map nD [0])).bind _ = _
    rw [e1, okb, e2, okb, sortN c2.nodup c2.lt (by omega), okb, tupL, okb]
  · rw [closed_test g hn c2] at e3
    cases hp : isPartB rs big fun v => decide (v ∈ f2) with
    | true => rfl
    | false => rw [hp] at e3; cases e3
end Lw

/-! VG: what is come to; all parts by going on room by room. -/
namespace Lw
open PySem Pf
def vb__law_parts_2 (v : D) (parent : D) (way : D) (d : D) (s : List D) : Res (List D) :=
  (memV true parent d).bind fun b_9 => (if b_9 = true then Res.ok true else (neV way (D.str "open")).bind fun b_10 => Res.ok b_10).bind fun x_11 => ((if x_11 = true then (appV s d).bind fun longer_12 => 
  Res.ok longer_12 else Res.ok s : Res (List D))).bind fun longer_13 => 
  (memV false parent d).bind fun b_14 => ((if b_14 = true then (addV d (D.tup [v])).bind fun x_15 => (appV longer_13 x_15).bind fun longer_16 => 
  Res.ok longer_16 else Res.ok longer_13 : Res (List D))).bind fun longer_17 => 
  Res.ok longer_17
def vb__law_parts_1 (d : D) (s : D) : Res (D) :=
  (un2 d).bind fun t_4 => (un3 t_4.2).bind fun t_5 => (gtV t_4.1 (D.int 0)).bind fun b_6 => ((if b_6 = true then (Res.ok []).bind fun longer_7 => 
  (itemsV s).bind fun l_8 => (foldV (vb__law_parts_2 t_4.1 t_5.1 t_5.2.1) l_8 longer_7).bind fun longer_18 => 
  (Res.ok (D.lst longer_18)).bind fun found_19 => 
  Res.ok found_19 else Res.ok s : Res (D))).bind fun found_20 => 
  Res.ok found_20
def vc__law_parts_4 (part : D) (d : D) : Res (Option D) :=
  (un2 d).bind fun t_26 => (idxV t_26.2 (D.int 1)).bind fun x_27 => (eqV x_27 (D.str "bar")).bind fun b_28 => (if b_28 = true then (idxV t_26.2 (D.int 0)).bind fun x_29 => (memV false x_29 part).bind fun b_30 => Res.ok b_30 else Res.ok false).bind fun x_31 => if x_31 = true then Res.ok (some t_26.1) else Res.ok none
def vc__law_parts_5 (part : D) (d : D) : Res (Option D) :=
  (memV false d part).bind fun b_34 => if b_34 = true then Res.ok (some d) else Res.ok none
def vb__law_parts_3 (dungeon : D) (big : D) (d : D) (s : List D) : Res (List D) :=
  (idxV dungeon (D.int 0)).bind fun x_25 => (datV (enumL 0) x_25).bind fun l_24 => (mapV (vc__law_parts_4 d) l_24).bind fun l_32 => 
  (itemsV (D.lst l_32)).bind fun l_33 => (mapV (vc__law_parts_5 d) l_33).bind fun l_35 => 
  (memV false big d).bind fun b_36 => (if b_36 = true then Res.ok (D.lst l_32) else Res.ok (D.lst [])).bind fun x_37 => (eqV (D.lst l_35) x_37).bind fun b_38 => ((if b_38 = true then (appV s d).bind fun told_39 => 
  Res.ok told_39 else Res.ok s : Res (List D))).bind fun told_40 => 
  Res.ok told_40
def v__law_parts (dungeon : D) (big : D) : Res (List D) :=
  (Res.ok (D.lst [(D.tup [(D.int 0)])])).bind fun found_1 => 
  (idxV dungeon (D.int 0)).bind fun x_3 => (datV (enumL 0) x_3).bind fun l_2 => (foldV (vb__law_parts_1) l_2 found_1).bind fun found_21 => 
  (Res.ok []).bind fun told_22 => 
  (itemsV found_21).bind fun l_23 => (foldV (vb__law_parts_3 dungeon big) l_23 told_22).bind fun told_41 => 
  (sortV (D.lst told_41)).bind fun l_42 => Res.ok l_42
theorem nodup_sub : ∀ {l m : List Nat}, l.Nodup → (∀ v ∈ l, v ∈ m) → l.length ≤ m.length
  | [], m, _, _ => Nat.zero_le _
  | a :: l, m, hd, h => by
    obtain ⟨h1, h2⟩ := List.nodup_cons.mp hd
    have ha := h a List.mem_cons_self
    have := nodup_sub (l := l) (m := m.erase a) h2 fun v hv => (List.mem_erase_of_ne (fun e => h1 (by rw [← e]; exact hv))).mpr (h v (List.mem_cons_of_mem _ hv))
    rw [List.length_erase_of_mem ha] at this
    have hp := List.length_pos_of_mem ha
    rw [List.length_cons]
    omega
inductive Op (rs : List Room) (big : Option Nat) (L : List Nat) : Nat → Prop
  | zero : Op rs big L 0
  | opn {v p : Nat} : v < rs.length → parOf rs v = some p → wayOf rs v = .opn → Op rs big L p → Op rs big L v
  | lck {v p : Nat} : v < rs.length → parOf rs v = some p → wayOf rs v = .lck → v ∈ L → Op rs big L p → Op rs big L v
  | bar {v p b : Nat} : v < rs.length → parOf rs v = some p → wayOf rs v = .bar → big = some b → Op rs big L b → Op rs big L p → Op rs big L v
def freeB (a b c d e : Bool) : Bool := a || ((b && c) || (d && e))
def free (rs : List Room) (big : Option Nat) (L : List Nat) (q : Nat → Bool) (v : Nat) : Bool :=
  freeB (decide (wayOf rs v = .opn)) (decide (wayOf rs v = .lck)) (decide (v ∈ L)) (decide (wayOf rs v = .bar)) (big.any q)
theorem free_op {rs : List Room} {big : Option Nat} {L found : List Nat} (hs : ∀ v ∈ found, Op rs big L v) {v p : Nat} (hv : v < rs.length) (hp : parOf rs v = some p) (hpf : p ∈ found) (hf : free rs big L (fun u => decide (u ∈ found)) v = true) : Op rs big L v := by
  unfold free freeB at hf
  simp only [Bool.or_eq_true, Bool.and_eq_true, decide_eq_true_eq] at hf
  rcases hf with h | ⟨h1, h2⟩ | ⟨h1, h2⟩
  · exact .opn hv hp h (hs p hpf)
  · exact .lck hv hp h1 h2 (hs p hpf)
  · cases big with
    | none => cases h2
    | some b => exact .bar hv hp h1 rfl (hs b (by simpa using h2)) (hs p hpf)
def Shut (rs : List Room) (big : Option Nat) (L found : List Nat) : Prop := ∀ v p, v < rs.length → parOf rs v = some p → p ∈ found → free rs big L (fun u => decide (u ∈ found)) v = true → v ∈ found
theorem shut_all {rs : List Room} {big : Option Nat} {L found : List Nat} (h0 : 0 ∈ found) (hs : Shut rs big L found) : ∀ {v : Nat}, Op rs big L v → v ∈ found := by
  intro v h
  induction h with
  | zero => exact h0
  | opn hv hp hw _ ih => exact hs _ _ hv hp ih (by unfold free freeB; rw [hw]; rfl)
  | lck hv hp hw hl _ ih => exact hs _ _ hv hp ih (by unfold free freeB; rw [hw, decide_eq_true hl]; rfl)
  | bar hv hp hw hb _ _ ih1 ih2 =>
    refine hs _ _ hv hp ih2 ?_
    unfold free freeB
    rw [hw, hb]
    show (false || (false && _ || true && decide (_ ∈ found))) = true
    rw [decide_eq_true ih1]
    rfl
theorem fold_filter {f : D → List D → Res (List D)} {p : Nat → Bool} : ∀ (l acc : List Nat), (∀ x ∈ l, ∀ acc : List Nat, acc.length ≤ 900000 → f (nD x) (acc.map nD) = .ok ((if p x = true then acc ++ [x] else acc).map nD)) → acc.length + l.length ≤ 900000 → foldV f (l.map nD) (acc.map nD) = .ok ((acc ++ l.filter p).map nD)
  | [], acc, _, _ => by rw [List.filter_nil, List.append_nil]; rfl
  | x :: l, acc, h, hz => by
    rw [List.length_cons] at hz
    rw [List.map_cons, foldV, h x List.mem_cons_self acc (by omega), okb, fold_filter l _ (fun y hy => h y (List.mem_cons_of_mem _ hy)) (by
      cases p x <;> simp <;> omega), List.filter_cons]
    cases p x with
    | true => simp
    | false => simp
theorem app_nat {acc : List Nat} {v : Nat} (h : acc.length ≤ 900000) : appV (acc.map nD) (nD v) = .ok ((acc ++ [v]).map nD) := by
  rw [app_ok (by rw [List.length_map]; omega), List.map_append]
  rfl
theorem opened_row {rs : List Room} {k : Nat} {big : Option Nat} {L found : List Nat} {l : List Nat} (hl : ∀ v ∈ l, v < rs.length) (hz : l.length ≤ 900000) : foldV (vb_opened_part_2 (dunD rs k) (.tup (L.map nD)) (oD big) (found.map nD)) (l.map nD) [] = .ok ((l.filter (free rs big L fun u => decide (u ∈ found))).map nD) := by
  have := fold_filter (f := vb_opened_part_2 (dunD rs k) (.tup (L.map nD)) (oD big) (found.map nD)) (p := free rs big L fun u => decide (u ∈ found)) l [] (fun x hx acc ha => by
    unfold vb_opened_part_2
    rw [dun0, okb, ix_room (hl x hx), okb, rD1, okb, way_opn, way_lck, way_bar, okb, mem_tupN, mem_lstO, app_nat ha, nat_xor_f, nat_xor_f]
    show _ = Res.ok ((if freeB (decide (wayOf rs x = .opn)) (decide (wayOf rs x = .lck)) (decide (x ∈ L)) (decide (wayOf rs x = .bar)) (big.any fun u => decide (u ∈ found)) = true then acc ++ [x] else acc).map nD)
    generalize decide (wayOf rs x = .opn) = a
    generalize decide (wayOf rs x = .lck) = b
    generalize decide (x ∈ L) = c
    generalize decide (wayOf rs x = .bar) = d
    generalize (big.any fun u => decide (u ∈ found)) = e
    cases a <;> cases b <;> cases c <;> cases d <;> cases e <;> rfl) (by rw [List.length_nil]; omega)
  rw [List.nil_append] at this
  exact this
structure Ost (rs : List Room) (big : Option Nat) (L f mo : List Nat) : Prop where
  nodup : (f ++ mo).Nodup
  lt : ∀ v ∈ f ++ mo, v < rs.length
  zero : 0 ∈ f ++ mo
  sound : ∀ v ∈ f ++ mo, Op rs big L v
  next : ∀ v p, v < rs.length → parOf rs v = some p → p ∈ f → free rs big L (fun u => decide (u ∈ f)) v = true → v ∈ f ++ mo
theorem opened_turn {rs : List Room} {k : Nat} (g : Rms rs) (hn : rs.length ≤ 1000) {big : Option Nat} {L f mo : List Nat} (o : Ost rs big L f mo) : ∃ mo', vb_opened_part_1 (dunD rs k) (.tup (L.map nD)) (oD big) (f.map nD, mo.map nD) = .ok ((f ++ mo).map nD, mo'.map nD) ∧ Ost rs big L (f ++ mo) mo' := by
  have hlen := nodup_len o.nodup o.lt
  rw [List.length_append] at hlen
  have hrl := lot_len (n := rs.length) (p := inRim rs fun u => decide (u ∈ f ++ mo))
  refine ⟨(lot rs.length (inRim rs fun u => decide (u ∈ f ++ mo))).filter (free rs big L fun u => decide (u ∈ f ++ mo)), ?_, ?_⟩
  · unfold vb_opened_part_1
    dsimp only
    rw [ext_ok (by rw [List.length_map, List.length_map]; omega), okb, ← List.map_append, okb, rim_spec (has_lst _) hn, okb, itemsV_tup, okb, opened_row (fun v hv => (lot_mem.mp hv).1) (by omega), okb]
  · have mem : ∀ v, v ∈ (lot rs.length (inRim rs fun u => decide (u ∈ f ++ mo))).filter (free rs big L fun u => decide (u ∈ f ++ mo)) → v < rs.length ∧ v ∉ f ++ mo ∧ ∃ p, parOf rs v = some p ∧ p ∈ f ++ mo ∧ free rs big L (fun u => decide (u ∈ f ++ mo)) v = true := fun v hv => by
      obtain ⟨h1, h2⟩ := List.mem_filter.mp hv
      obtain ⟨h3, h4⟩ := lot_mem.mp h1
      unfold inRim at h4
      rw [Bool.and_eq_true] at h4
      refine ⟨h3, by simpa using h4.1, ?_⟩
      cases hp : parOf rs v with
      | none => rw [hp] at h4; simp at h4
      | some p => rw [hp] at h4; exact ⟨p, rfl, by simpa using h4.2, h2⟩
    refine ⟨List.nodup_append.mpr ⟨o.nodup, lot_nodup.filter _, fun a ha b hb e => ?_⟩, fun v hv => ?_, List.mem_append_left _ o.zero, fun v hv => ?_, fun v p hv hp hpf hf => ?_⟩
    · subst e; exact (mem a hb).2.1 ha
    · rcases List.mem_append.mp hv with z | z
      · exact o.lt v z
      · exact (mem v z).1
    · rcases List.mem_append.mp hv with z | z
      · exact o.sound v z
      · obtain ⟨h1, _, p, h3, h4, h5⟩ := mem v z
        exact free_op o.sound h1 h3 h4 h5
    · by_cases hvf : v ∈ f ++ mo
      · exact List.mem_append_left _ hvf
      · refine List.mem_append_right _ (List.mem_filter.mpr ⟨lot_mem.mpr ⟨hv, ?_⟩, hf⟩)
        unfold inRim
        rw [hp]
        simp only [Bool.and_eq_true, Bool.not_eq_true', decide_eq_false_iff_not]
        exact ⟨hvf, by simpa using hpf⟩
/-- the rooms that are come to: just those of Op -/
structure Come (rs : List Room) (big : Option Nat) (L found : List Nat) : Prop where
  nodup : found.Nodup
  lt : ∀ v ∈ found, v < rs.length
  iff : ∀ v, v ∈ found ↔ Op rs big L v
theorem opened_spec {rs : List Room} {k : Nat} (g : Rms rs) (hn : rs.length ≤ 1000) {big : Option Nat} {small : List Nat} {L : List Nat} : ∃ found, v_opened_part (dunD rs k) (laidD big small) (.tup (L.map nD)) = .ok (.tup ((lot rs.length fun v => decide (v ∈ found)).map nD)) ∧ Come rs big L found := by
  have o0 : Ost rs big L [] [0] := ⟨by simp, fun v hv => by
    have : v = 0 := by simpa using hv
    subst this; exact g.pos, by simp, fun v hv => by
    have : v = 0 := by simpa using hv
    subst this; exact .zero, fun v p _ _ h _ => absurd h (by simp)⟩
  obtain ⟨s', m', e2, ⟨f, mo, rfl, o, hm⟩, e3⟩ := whlV_inv (fun m (s : List D × List D) => ∃ f mo : List Nat, s = (f.map nD, mo.map nD) ∧ Ost rs big L f mo ∧ m = rs.length - f.length) (c := vt_opened_part_1 (dunD rs k) (.tup (L.map nD)) (oD big)) (f := vb_opened_part_1 (dunD rs k) (.tup (L.map nD)) (oD big)) (fun m s hs => by
    obtain ⟨f, mo, rfl, o, rfl⟩ := hs
    have e : vt_opened_part_1 (dunD rs k) (.tup (L.map nD)) (oD big) (f.map nD, mo.map nD) = .ok (!mo.isEmpty) := by
      unfold vt_opened_part_1
      dsimp only
      rw [ne_nil, okb]
      cases mo <;> rfl
    rw [e]
    cases mo with
    | nil => exact .inl ⟨rfl, True, trivial⟩
    | cons a mo =>
      obtain ⟨mo', e1, o1⟩ := opened_turn (k := k) g hn o
      have h1 := nodup_len o.nodup o.lt
      rw [List.length_append, List.length_cons] at h1
      exact .inr ⟨rfl, _, _, e1, ⟨_, _, rfl, o1, rfl⟩, by rw [List.length_append, List.length_cons]; omega⟩) WF (rs.length - ([] : List Nat).length) ([], [D.int 0]) ⟨[], [0], rfl, o0, rfl⟩ (by unfold WF; simp; omega)
  have hmo : mo = [] := by
    unfold vt_opened_part_1 at e3
    dsimp only at e3
    rw [ne_nil, okb] at e3
    cases mo with
    | nil => rfl
    | cons a l => cases e3
  subst hmo
  have c : Come rs big L f := by
    have hf : f ++ [] = f := List.append_nil f
    refine ⟨hf ▸ o.nodup, hf ▸ o.lt, fun v => ⟨fun h => o.sound v (hf.symm ▸ h), fun h => shut_all (hf ▸ o.zero) (fun v p h1 h2 h3 h4 => hf ▸ o.next v p h1 h2 h3 h4) h⟩⟩
  refine ⟨f, ?_, c⟩
  unfold v_opened_part
  rw [laid0, okb, okb, okb, e2, okb]
  dsimp only
  rw [sortN c.nodup c.lt (by omega), okb, tupL, okb]
/-! the law's own going on -/
structure Cst (rs : List Room) (big : Option Nat) (L f : List Nat) : Prop where
  nodup : f.Nodup
  lt : ∀ v ∈ f, v < rs.length
  zero : 0 ∈ f
  sound : ∀ v ∈ f, Op rs big L v
def comes (rs : List Room) (big : Option Nat) (L f : List Nat) (v : Nat) : Bool := !decide (v ∈ f) && ((parOf rs v).any (fun u => decide (u ∈ f)) && free rs big L (fun u => decide (u ∈ f)) v)
theorem come_one {rs : List Room} {big : Option Nat} {L f : List Nat} {v : Nat} (hv : v < rs.length) (hf : f.length ≤ 900000) : vb__law_come_to_2 (oD big) (.tup (L.map nD)) (.tup [nD v, rD rs v]) (f.map nD) = .ok ((if comes rs big L f v = true then f ++ [v] else f).map nD) := by
  unfold vb__law_come_to_2
  rw [un2_e, okb]
  dsimp only
  rw [rDu, okb]
  dsimp only
  rw [way_opn, way_lck, way_bar, okb, mem_tupN, mem_lstO, mem_lstO, mem_lstN, app_nat hf, nat_xor_f, nat_xor_f, nat_xor_f, nat_xor_t]
  show _ = Res.ok ((if (!decide (v ∈ f) && ((parOf rs v).any (fun u => decide (u ∈ f)) && freeB (decide (wayOf rs v = .opn)) (decide (wayOf rs v = .lck)) (decide (v ∈ L)) (decide (wayOf rs v = .bar)) (big.any fun u => decide (u ∈ f)))) = true then f ++ [v] else f).map nD)
  generalize decide (wayOf rs v = .opn) = a
  generalize decide (wayOf rs v = .lck) = b
  generalize decide (v ∈ L) = c
  generalize decide (wayOf rs v = .bar) = d
  generalize (big.any fun u => decide (u ∈ f)) = e
  generalize decide (v ∈ f) = x
  generalize ((parOf rs v).any fun u => decide (u ∈ f)) = y
  cases a <;> cases b <;> cases c <;> cases d <;> cases e <;> cases x <;> cases y <;> rfl
theorem come_pass {rs : List Room} {big : Option Nat} {L : List Nat} (hn : rs.length ≤ 1000) : ∀ (l f : List Nat), (∀ v ∈ l, v < rs.length) → Cst rs big L f → ∃ f', foldV (vb__law_come_to_2 (oD big) (.tup (L.map nD))) (l.map fun v => .tup [nD v, rD rs v]) (f.map nD) = .ok (f'.map nD) ∧ Cst rs big L f' ∧ (f.length < f'.length ∨ (f' = f ∧ ∀ v ∈ l, comes rs big L f v = false))
  | [], f, _, c => ⟨f, rfl, c, .inr ⟨rfl, fun _ h => absurd h (by simp)⟩⟩
  | v :: l, f, hl, c => by
    have hv := hl v List.mem_cons_self
    have hfl := nodup_len c.nodup c.lt
    have e1 := come_one (L := L) (big := big) (f := f) hv (by omega)
    cases hc : comes rs big L f v with
    | false =>
      rw [hc, if_neg (by simp)] at e1
      obtain ⟨f', e, c', h⟩ := come_pass hn l f (fun u hu => hl u (List.mem_cons_of_mem _ hu)) c
      refine ⟨f', by rw [List.map_cons, foldV, e1, okb]; exact e, c', h.imp id fun ⟨h1, h2⟩ => ⟨h1, fun u hu => ?_⟩⟩
      rcases List.mem_cons.mp hu with z | z
      · subst z; exact hc
      · exact h2 u z
    | true =>
      rw [hc, if_pos rfl] at e1
      unfold comes at hc
      simp only [Bool.and_eq_true, Bool.not_eq_true', decide_eq_false_iff_not] at hc
      obtain ⟨h1, h2, h3⟩ := hc
      have c1 : Cst rs big L (f ++ [v]) := by
        refine ⟨List.nodup_append.mpr ⟨c.nodup, by simp, fun a ha b hb e => ?_⟩, fun u hu => ?_, List.mem_append_left _ c.zero, fun u hu => ?_⟩
        · have : b = v := by simpa using hb
          subst this e; exact h1 ha
        · rcases List.mem_append.mp hu with z | z
          · exact c.lt u z
          · have : u = v := by simpa using z
            subst this; exact hv
        · rcases List.mem_append.mp hu with z | z
          · exact c.sound u z
          · have : u = v := by simpa using z
            subst this
            cases hp : parOf rs u with
            | none => rw [hp] at h2; cases h2
            | some p => rw [hp] at h2; exact free_op c.sound hv hp (by simpa using h2) h3
      obtain ⟨f', e, c', h⟩ := come_pass hn l (f ++ [v]) (fun u hu => hl u (List.mem_cons_of_mem _ hu)) c1
      refine ⟨f', by rw [List.map_cons, foldV, e1, okb]; exact e, c', .inl ?_⟩
      rcases h with h | ⟨h, _⟩
      · rw [List.length_append, List.length_singleton] at h; omega
      · rw [h, List.length_append, List.length_singleton]; omega
theorem come_spec {rs : List Room} {k : Nat} (g : Rms rs) (hn : rs.length ≤ 1000) {big : Option Nat} {L : List Nat} : ∃ found, v__law_come_to (dunD rs k) (oD big) (.tup (L.map nD)) = .ok (.tup ((lot rs.length fun v => decide (v ∈ found)).map nD)) ∧ Come rs big L found := by
  have c0 : Cst rs big L [0] := ⟨by simp, fun v hv => by
    have : v = 0 := by simpa using hv
    subst this; exact g.pos, by simp, fun v hv => by
    have : v = 0 := by simpa using hv
    subst this; exact .zero⟩
  have shut : ∀ f, (∀ v ∈ List.range rs.length, comes rs big L f v = false) → Shut rs big L f := fun f h v p hv hp hpf hf => by
    have := h v (List.mem_range.mpr hv)
    unfold comes at this
    rw [hp, hf] at this
    have h2 : ((some p).any fun u => decide (u ∈ f)) = true := by simpa using hpf
    rw [h2] at this
    simpa using this
  obtain ⟨s', e, f, rfl, c, h⟩ := foldV_ix (fun i (s : List D) => ∃ f : List Nat, s = f.map nD ∧ Cst rs big L f ∧ (Shut rs big L f ∨ i + 1 ≤ f.length)) (f := vb__law_come_to_1 (dunD rs k) (oD big) (.tup (L.map nD))) (ds := (List.range rs.length).map nD) (k := 0) (fun i d s hd hs => by
    obtain ⟨f, rfl, c, h⟩ := hs
    obtain ⟨f', e, c', h'⟩ := come_pass (big := big) (L := L) hn (List.range rs.length) f (fun v hv => List.mem_range.mp hv) c
    refine ⟨f'.map nD, ?_, f', rfl, c', ?_⟩
    · unfold vb__law_come_to_1
      rw [dun0, okb, enum_rooms, okb, e, okb]
    · rcases h' with h' | ⟨h1, h2⟩
      · rcases h with h | h
        · -- nothing more can be added
          refine .inl ?_
          have hsub : ∀ v, Op rs big L v → v ∈ f := fun v hv => shut_all c.zero h hv
          have h3 : f'.length ≤ f.length := by
            have hp : f'.Nodup := c'.nodup
            have : ∀ v ∈ f', v ∈ f := fun v hv => hsub v (c'.sound v hv)
            exact nodup_sub hp this
          omega
        · exact .inr (by omega)
      · subst h1; exact .inl (shut f' h2)) ([0].map nD) ⟨[0], rfl, c0, .inr (by simp)⟩
  have hlen := nodup_len c.nodup c.lt
  have hsh : Shut rs big L f := by
    rcases h with h | h
    · exact h
    · rw [List.length_map, List.length_range] at h; omega
  refine ⟨f, ?_, c.nodup, c.lt, fun v => ⟨c.sound v, shut_all c.zero hsh⟩⟩
  unfold v__law_come_to
  rw [okb, dun0, okb, len_rooms, okb, rng1_nat (by omega), okb]
  show (foldV _ _ (List.map nD [0])).bind _ = _
  rw [e, okb, sortN c.nodup c.lt (by omega), okb, tupL, okb]
theorem come_same {rs : List Room} {big : Option Nat} {L f f' : List Nat} (h : Come rs big L f) (h' : Come rs big L f') : (lot rs.length fun v => decide (v ∈ f)) = lot rs.length fun v => decide (v ∈ f') :=
  lot_congr fun v _ => by rw [decide_eq_decide, h.iff, h'.iff]
/-- what is come to is a part -/
theorem come_part {rs : List Room} (g : Rms rs) {big : Option Nat} {small L f : List Nat} (hL : Laid rs big small) (c : Come rs big L f) : isPartB rs big (fun v => decide (v ∈ f)) = true := by
  refine isPartB_iff.mpr ⟨by simpa using (c.iff 0).mpr .zero, fun v h0 hv => ?_⟩
  obtain ⟨p, hp, _, hw⟩ := g.par hv h0
  show rightlyB (decide (v ∈ f)) ((parOf rs v).any fun u => decide (u ∈ f)) (big.any fun u => decide (u ∈ f)) (decide (wayOf rs v = .bar)) (decide (wayOf rs v = .lck)) = true
  by_cases hvf : v ∈ f
  · have ho := (c.iff v).mp hvf
    have hpf : p ∈ f := by
      cases ho with
      | zero => omega
      | opn _ hp' _ h => rw [hp] at hp'; cases hp'; exact (c.iff _).mpr h
      | lck _ hp' _ _ h => rw [hp] at hp'; cases hp'; exact (c.iff _).mpr h
      | bar _ hp' _ _ _ h => rw [hp] at hp'; cases hp'; exact (c.iff _).mpr h
    have hbar : wayOf rs v = .bar → (big.any fun u => decide (u ∈ f)) = true := fun hb => by
      cases ho with
      | zero => omega
      | opn _ _ h _ => rw [h] at hb; cases hb
      | lck _ _ h _ _ => rw [h] at hb; cases hb
      | bar _ _ _ h1 h2 _ => rw [h1]; simpa using (c.iff _).mpr h2
    rw [decide_eq_true hvf, hp]
    have h1 : ((some p).any fun u => decide (u ∈ f)) = true := by simpa using hpf
    rw [h1]
    by_cases hb : wayOf rs v = .bar
    · rw [hbar hb, decide_eq_true hb]; rfl
    · rw [decide_eq_false hb]; rfl
  · rw [decide_eq_false hvf, hp]
    by_cases hpf : p ∈ f
    · have h1 : ((some p).any fun u => decide (u ∈ f)) = true := by simpa using hpf
      rw [h1]
      cases hwv : wayOf rs v with
      | non => exact absurd hwv hw
      | opn => exact absurd ((c.iff v).mpr (.opn hv hp hwv ((c.iff p).mp hpf))) hvf
      | lck => rfl
      | bar =>
        have : (big.any fun u => decide (u ∈ f)) = false := by
          cases big with
          | none => rfl
          | some b =>
            by_cases hb : b ∈ f
            · exact absurd ((c.iff v).mpr (.bar hv hp hwv rfl ((c.iff b).mp hb) ((c.iff p).mp hpf))) hvf
            · simpa using hb
        rw [this]
        rfl
    · have h1 : ((some p).any fun u => decide (u ∈ f)) = false := by simpa using hpf
      rw [h1]
      rfl
/-! ### all parts, by going on room by room -/
def goOn (rs : List Room) (v : Nat) (l : List Nat) : List (List Nat) :=
  (if (!(parOf rs v).any (fun u => decide (u ∈ l)) || !decide (wayOf rs v = .opn)) = true then [l] else []) ++ (if (parOf rs v).any (fun u => decide (u ∈ l)) = true then [l ++ [v]] else [])
def gen (rs : List Room) : Nat → List (List Nat)
  | 0 => [[0]]
  | v + 1 => if v = 0 then gen rs v else (gen rs v).flatMap (goOn rs v)
def partD (l : List Nat) : D := .tup (l.map nD)
theorem goOn_len (rs : List Room) (v : Nat) (l : List Nat) : (goOn rs v l).length ≤ 2 := by
  unfold goOn
  rw [List.length_append]
  split <;> split <;> simp
theorem flat_len {rs : List Room} {v : Nat} : ∀ ls : List (List Nat), (ls.flatMap (goOn rs v)).length ≤ 2 * ls.length
  | [] => by simp
  | l :: ls => by
    rw [List.flatMap_cons, List.length_append, List.length_cons]
    have h1 := goOn_len rs v l
    have h2 := flat_len (rs := rs) (v := v) ls
    omega
theorem gen_len (rs : List Room) : ∀ v, (gen rs v).length ≤ 2 ^ v
  | 0 => by simp [gen]
  | v + 1 => by
    have h := gen_len rs v
    rw [gen, Nat.pow_succ]
    split
    · omega
    · have := flat_len (rs := rs) (v := v) (gen rs v)
      omega
theorem gen_row {rs : List Room} {v : Nat} : ∀ (ls : List (List Nat)) (acc : List (List Nat)), (∀ l ∈ ls, l.length ≤ 1000) → acc.length + 2 * ls.length ≤ 900000 → foldV (vb__law_parts_2 (nD v) (oD (parOf rs v)) (wayOf rs v).d) (ls.map partD) (acc.map partD) = .ok ((acc ++ ls.flatMap (goOn rs v)).map partD)
  | [], acc, _, _ => by rw [List.flatMap_nil, List.append_nil]; rfl
  | l :: ls, acc, hl, hz => by
    rw [List.length_cons] at hz
    have h1 := hl l List.mem_cons_self
    have hg := goOn_len rs v l
    have e : vb__law_parts_2 (nD v) (oD (parOf rs v)) (wayOf rs v).d (partD l) (acc.map partD) = .ok ((acc ++ goOn rs v l).map partD) := by
      have a1 : ∀ ac : List (List Nat), ac.length ≤ 900000 → ∀ m : List Nat, appV (ac.map partD) (partD m) = .ok ((ac ++ [m]).map partD) := fun ac ha m => by
        rw [app_ok (by rw [List.length_map]; omega), List.map_append]; rfl
      have a2 : addV (partD l) (.tup [nD v]) = .ok (partD (l ++ [v])) := by
        unfold partD
        rw [addT, sz_ok (by rw [List.length_map]; simp; omega), List.map_append]
        rfl
      unfold vb__law_parts_2
      rw [way_nopn]
      unfold partD at *
      rw [mem_tupO, mem_tupO, nat_xor_f, nat_xor_t, a2, okb]
      show _ = Res.ok ((acc ++ ((if (!(parOf rs v).any (fun u => decide (u ∈ l)) || !decide (wayOf rs v = .opn)) = true then [l] else []) ++ (if (parOf rs v).any (fun u => decide (u ∈ l)) = true then [l ++ [v]] else []))).map fun l => D.tup (l.map nD))
      generalize ((parOf rs v).any fun u => decide (u ∈ l)) = x
      generalize decide (wayOf rs v = .opn) = y
      cases x <;> cases y
      · simp only [Bool.not_false, if_true, okb, a1 acc (by omega), Bool.false_eq_true, if_false, Bool.true_or, List.append_nil]
      · simp only [Bool.not_false, if_true, okb, a1 acc (by omega), Bool.false_eq_true, if_false, Bool.true_or, List.append_nil]
      · simp only [Bool.not_false, Bool.not_true, if_true, okb, a1 acc (by omega), a1 (acc ++ [l]) (by rw [List.length_append, List.length_singleton]; omega), Bool.false_eq_true, if_false, Bool.false_or, List.append_assoc, List.singleton_append]
      · simp only [Bool.not_false, Bool.not_true, if_true, okb, a1 acc (by omega), Bool.false_eq_true, if_false, Bool.false_or, List.nil_append]
    rw [List.map_cons, foldV, e, okb, gen_row ls _ (fun m hm => hl m (List.mem_cons_of_mem _ hm)) (by rw [List.length_append]; omega), List.flatMap_cons, List.append_assoc]
end Lw

/-! VH: the list of all parts. -/
namespace Lw
open PySem Pf
structure Gen (rs : List Room) (v : Nat) (l : List Nat) : Prop where
  sorted : l.Pairwise (· < ·)
  lt : ∀ u ∈ l, u < v
  zero : 0 ∈ l
  rule : ∀ u p, 0 < u → u < v → parOf rs u = some p → (u ∈ l → p ∈ l) ∧ (u ∉ l → p ∉ l ∨ wayOf rs u ≠ .opn)
theorem gen_sound {rs : List Room} (g : Rms rs) : ∀ v, 1 ≤ v → v ≤ rs.length → ∀ l ∈ gen rs v, Gen rs v l
  | 0, h, _, _, _ => absurd h (by omega)
  | 1, _, _, l, hl => by
    have : l = [0] := by simpa [gen] using hl
    subst this
    exact ⟨by simp, fun u hu => by have : u = 0 := by simpa using hu
                                   omega, by simp, fun u p h1 h2 _ => by omega⟩
  | v + 2, _, hv, m, hm => by
    rw [gen, if_neg (by omega)] at hm
    obtain ⟨l, hl, hml⟩ := List.mem_flatMap.mp hm
    have G := gen_sound g (v + 1) (by omega) (by omega) l hl
    obtain ⟨p, hp, hpv, _⟩ := g.par (v := v + 1) (by omega) (by omega)
    unfold goOn at hml
    rw [hp] at hml
    have hvl : v + 1 ∉ l := fun z => by have := G.lt _ z; omega
    rcases List.mem_append.mp hml with z | z
    · by_cases hc : (!(some p).any (fun u => decide (u ∈ l)) || !decide (wayOf rs (v + 1) = .opn)) = true
      · rw [if_pos hc] at z
        have : m = l := by simpa using z
        subst this
        refine ⟨G.sorted, fun u hu => by have := G.lt u hu; omega, G.zero, fun u q h1 h2 hq => ?_⟩
        by_cases hu : u < v + 1
        · exact G.rule u q h1 hu hq
        · have : u = v + 1 := by omega
          subst this
          rw [hp] at hq; cases hq
          exact ⟨fun z => absurd z hvl, fun _ => by simpa using hc⟩
      · rw [if_neg hc] at z; exact absurd z (by simp)
    · by_cases hc : ((some p).any fun u => decide (u ∈ l)) = true
      · rw [if_pos hc] at z
        have : m = l ++ [v + 1] := by simpa using z
        subst this
        have hpl : p ∈ l := by simpa using hc
        refine ⟨List.pairwise_append.mpr ⟨G.sorted, by simp, fun a ha b hb => ?_⟩, fun u hu => ?_, List.mem_append_left _ G.zero, fun u q h1 h2 hq => ?_⟩
        · have : b = v + 1 := by simpa using hb
          have := G.lt a ha
          omega
        · rcases List.mem_append.mp hu with z | z
          · have := G.lt u z; omega
          · have : u = v + 1 := by simpa using z
            omega
        · have hql := (g.par_lt hq).1
          by_cases hu : u < v + 1
          · obtain ⟨r1, r2⟩ := G.rule u q h1 hu hq
            have e1 : u ∈ l ++ [v + 1] ↔ u ∈ l := by
              rw [List.mem_append, List.mem_singleton]
              exact ⟨fun z => z.elim id fun z => by omega, .inl⟩
            have e2 : q ∈ l ++ [v + 1] ↔ q ∈ l := by
              rw [List.mem_append, List.mem_singleton]
              exact ⟨fun z => z.elim id fun z => by omega, .inl⟩
            rw [e1, e2]
            exact ⟨r1, r2⟩
          · have : u = v + 1 := by omega
            subst this
            rw [hp] at hq; cases hq
            exact ⟨fun _ => List.mem_append_left _ hpl, fun z => absurd (List.mem_append_right _ (by simp)) z⟩
      · rw [if_neg hc] at z; exact absurd z (by simp)
theorem lot_succ (v : Nat) (q : Nat → Bool) : lot (v + 1) q = lot v q ++ (if q v = true then [v] else []) := by
  unfold lot
  rw [List.range_succ, List.filter_append, List.filter_cons, List.filter_nil]
theorem gen_full {rs : List Room} (g : Rms rs) {q : Nat → Bool} (h0 : q 0 = true) (hq : ∀ u p, 0 < u → u < rs.length → parOf rs u = some p → (q u = true → q p = true) ∧ (q u = false → q p = false ∨ wayOf rs u ≠ .opn)) : ∀ v, 1 ≤ v → v ≤ rs.length → lot v q ∈ gen rs v
  | 0, h, _ => absurd h (by omega)
  | 1, _, _ => by
    rw [lot_succ, h0]
    simp [gen, lot]
  | v + 2, _, hv => by
    have ih := gen_full g h0 hq (v + 1) (by omega) (by omega)
    obtain ⟨p, hp, hpv, _⟩ := g.par (v := v + 1) (by omega) (by omega)
    obtain ⟨r1, r2⟩ := hq (v + 1) p (by omega) (by omega) hp
    rw [gen, if_neg (by omega)]
    refine List.mem_flatMap.mpr ⟨_, ih, ?_⟩
    have hm : (p ∈ lot (v + 1) q) ↔ q p = true := by rw [lot_mem]; exact ⟨fun z => z.2, fun z => ⟨hpv, z⟩⟩
    unfold goOn
    rw [hp, lot_succ (v + 1)]
    cases hqv : q (v + 1) with
    | true =>
      rw [if_pos rfl]
      refine List.mem_append_right _ ?_
      have : ((some p).any fun u => decide (u ∈ lot (v + 1) q)) = true := by simpa using hm.mpr (r1 hqv)
      rw [if_pos this]
      simp
    | false =>
      have hf : (if false = true then [v + 1] else []) = ([] : List Nat) := rfl
      rw [hf, List.append_nil]
      refine List.mem_append_left _ ?_
      have : (!(some p).any (fun u => decide (u ∈ lot (v + 1) q)) || !decide (wayOf rs (v + 1) = .opn)) = true := by
        rcases r2 hqv with z | z
        · have : p ∉ lot (v + 1) q := fun y => by rw [hm] at y; rw [y] at z; cases z
          simp [this]
        · simp [z]
      rw [if_pos this]
      simp
/-- the bars that hang on a lot -/
def bars (rs : List Room) (l : List Nat) : List Nat := lot rs.length fun v => decide (wayOf rs v = .bar) && (parOf rs v).any fun u => decide (u ∈ l)
def keepB (rs : List Room) (big : Option Nat) (l : List Nat) : Bool := decide ((bars rs l).filter (fun v => decide (v ∈ l)) = if (big.any fun u => decide (u ∈ l)) = true then bars rs l else [])
theorem keep_iff {rs : List Room} (g : Rms rs) {big : Option Nat} {l : List Nat} (G : Gen rs rs.length l) : keepB rs big l = true ↔ isPartB rs big (fun v => decide (v ∈ l)) = true := by
  have bm : ∀ v p, parOf rs v = some p → (v ∈ bars rs l ↔ v < rs.length ∧ wayOf rs v = .bar ∧ p ∈ l) := fun v p hp => by
    unfold bars
    rw [lot_mem, hp]
    simp
  unfold keepB
  rw [decide_eq_true_eq, isPartB_iff]
  constructor
  · intro h
    refine ⟨by simpa using G.zero, fun v h0 hv => ?_⟩
    obtain ⟨p, hp, _, hw⟩ := g.par hv h0
    obtain ⟨r1, r2⟩ := G.rule v p h0 hv hp
    show rightlyB (decide (v ∈ l)) ((parOf rs v).any fun u => decide (u ∈ l)) (big.any fun u => decide (u ∈ l)) (decide (wayOf rs v = .bar)) (decide (wayOf rs v = .lck)) = true
    rw [hp]
    have hb : ((some p).any fun u => decide (u ∈ l)) = decide (p ∈ l) := rfl
    rw [hb]
    cases hc : big.any fun u => decide (u ∈ l) with
    | true =>
      rw [hc, if_pos rfl, List.filter_eq_self] at h
      by_cases hvl : v ∈ l
      · rw [decide_eq_true hvl, decide_eq_true (r1 hvl)]
        cases decide (wayOf rs v = .bar) <;> rfl
      · rw [decide_eq_false hvl]
        by_cases hpl : p ∈ l
        · have hnb : wayOf rs v ≠ .bar := fun z => by
            have := h v ((bm v p hp).mpr ⟨hv, z, hpl⟩)
            exact hvl (by simpa using this)
          have hno := (r2 hvl).resolve_left (fun z => z hpl)
          cases hwv : wayOf rs v with
          | non => exact absurd hwv hw
          | opn => exact absurd hwv hno
          | bar => exact absurd hwv hnb
          | lck => rw [decide_eq_true hpl]; rfl
        · rw [decide_eq_false hpl]; rfl
    | false =>
      rw [hc, if_neg (by simp), List.filter_eq_nil_iff] at h
      by_cases hvl : v ∈ l
      · have hnb : wayOf rs v ≠ .bar := fun z => by
          have := h v ((bm v p hp).mpr ⟨hv, z, r1 hvl⟩)
          exact this (by simpa using hvl)
        rw [decide_eq_true hvl, decide_eq_true (r1 hvl), decide_eq_false hnb]
        rfl
      · rw [decide_eq_false hvl]
        by_cases hpl : p ∈ l
        · have hno := (r2 hvl).resolve_left (fun z => z hpl)
          cases hwv : wayOf rs v with
          | non => exact absurd hwv hw
          | opn => exact absurd hwv hno
          | bar => rw [decide_eq_true hpl]; rfl
          | lck => rw [decide_eq_true hpl]; rfl
        · rw [decide_eq_false hpl]; rfl
  · rintro ⟨_, h⟩
    have hr : ∀ v, v ∈ bars rs l → rightlyB (decide (v ∈ l)) true (big.any fun u => decide (u ∈ l)) true false = true := fun v hv => by
      have hvn := (lot_mem.mp hv).1
      have h0 : 0 < v := by
        rcases Nat.eq_zero_or_pos v with e | e
        · subst e
          have := (lot_mem.mp hv).2
          rw [g.way0] at this
          simp at this
        · exact e
      obtain ⟨p, hp, _, _⟩ := g.par hvn h0
      obtain ⟨_, hwv, hpl⟩ := (bm v p hp).mp hv
      have hr := h v h0 hvn
      have hr : rightlyB (decide (v ∈ l)) ((parOf rs v).any fun u => decide (u ∈ l)) (big.any fun u => decide (u ∈ l)) (decide (wayOf rs v = .bar)) (decide (wayOf rs v = .lck)) = true := hr
      rw [hp, hwv] at hr
      have hb : ((some p).any fun u => decide (u ∈ l)) = true := by simpa using hpl
      rw [hb] at hr
      exact hr
    cases hc : big.any fun u => decide (u ∈ l) with
    | true =>
      rw [if_pos rfl, List.filter_eq_self]
      intro v hv
      have := hr v hv
      rw [hc] at this
      cases hd : decide (v ∈ l) with
      | true => rfl
      | false => rw [hd] at this; cases this
    | false =>
      rw [if_neg (by simp), List.filter_eq_nil_iff]
      intro v hv
      have := hr v hv
      rw [hc] at this
      cases hd : decide (v ∈ l) with
      | true => rw [hd] at this; cases this
      | false => simp
theorem gen_walk {rs : List Room} (g : Rms rs) (hn : rs.length ≤ 11) : foldV vb__law_parts_1 ((List.range rs.length).map fun v => .tup [nD v, rD rs v]) (.lst [.tup [.int 0]]) = .ok (.lst ((gen rs rs.length).map partD)) := by
  obtain ⟨s', e, h⟩ := foldV_ix (fun i (s : D) => s = .lst ((gen rs i).map partD)) (f := vb__law_parts_1) (ds := (List.range rs.length).map fun v => .tup [nD v, rD rs v]) (k := 0) (fun i d s hd hs => by
    subst hs
    have hi : i < rs.length := by
      have := (List.getElem?_eq_some_iff.mp hd).1
      simpa using this
    rw [List.getElem?_map, List.getElem?_range hi] at hd
    cases hd
    rw [Nat.zero_add]
    refine ⟨_, ?_, rfl⟩
    unfold vb__law_parts_1
    rw [un2_e, okb]
    dsimp only
    rw [rDu, okb, gt_intV, okb]
    dsimp only
    by_cases h0 : i = 0
    · subst h0
      rw [if_neg (by simp), okb]
      rfl
    · have hc : decide ((0 : Int) < ((i : Nat) : Int)) = true := decide_eq_true (by omega)
      have hgl := gen_len rs i
      have hp : 2 ^ i ≤ 2 ^ 11 := Nat.pow_le_pow_right (by decide) (by omega)
      have hz : (2 : Nat) ^ 11 = 2048 := by decide
      have hr := gen_row (rs := rs) (v := i) (gen rs i) [] (fun l hl => by
        have G := gen_sound g i (by omega) (by omega) l hl
        have := nodup_len (sorted_nodup G.sorted) G.lt
        omega) (by simp; omega)
      rw [List.nil_append] at hr
      rw [if_pos hc, okb, itemsV_lst, okb]
      show ((foldV _ _ (List.map partD [])).bind _).bind _ = _
      rw [hr, okb, okb, okb, gen, if_neg h0]) (.lst [.tup [.int 0]]) rfl
  rw [List.length_map, List.length_range, Nat.zero_add] at h
  subst h
  exact e
theorem bars_spec {rs : List Room} {l : List Nat} (hn : rs.length ≤ 1000) : mapV (vc__law_parts_4 (partD l)) ((List.range rs.length).map fun v => .tup [nD v, rD rs v]) = .ok ((bars rs l).map nD) :=
  mapV_if (fun v => decide (wayOf rs v = .bar) && (parOf rs v).any fun u => decide (u ∈ l)) nD (fun v _ => by
    unfold vc__law_parts_4 partD
    rw [un2_e, okb]
    dsimp only
    rw [rD1, okb, way_bar, okb, rD0, okb, mem_tupO, nat_xor_f, okb]
    show _ = Res.ok (if (decide (wayOf rs v = .bar) && (parOf rs v).any fun u => decide (u ∈ l)) = true then some (nD v) else none)
    generalize decide (wayOf rs v = .bar) = a
    generalize ((parOf rs v).any fun u => decide (u ∈ l)) = b
    cases a <;> cases b <;> rfl) (by rw [List.length_range]; omega)
theorem keep_walk {rs : List Room} {k : Nat} {big : Option Nat} (hn : rs.length ≤ 1000) : ∀ (ls acc : List (List Nat)), acc.length + ls.length ≤ 900000 → foldV (vb__law_parts_3 (dunD rs k) (oD big)) (ls.map partD) (acc.map partD) = .ok ((acc ++ ls.filter (keepB rs big)).map partD)
  | [], acc, _ => by rw [List.filter_nil, List.append_nil]; rfl
  | l :: ls, acc, hz => by
    rw [List.length_cons] at hz
    have hb : (bars rs l).length ≤ rs.length := lot_len
    have e : vb__law_parts_3 (dunD rs k) (oD big) (partD l) (acc.map partD) = .ok ((if keepB rs big l = true then acc ++ [l] else acc).map partD) := by
      have e5 : mapV (vc__law_parts_5 (partD l)) ((bars rs l).map nD) = .ok (((bars rs l).filter fun v => decide (v ∈ l)).map nD) := mapV_if (fun v => decide (v ∈ l)) nD (fun v _ => by
        unfold vc__law_parts_5 partD
        rw [mem_tupN, okb, nat_xor_f]
        by_cases h : v ∈ l <;> simp [h]) (by omega)
      unfold vb__law_parts_3
      rw [dun0, okb, enum_rooms, okb, bars_spec hn, okb, itemsV_lst, okb, e5, okb]
      unfold partD
      rw [mem_tupO, nat_xor_f, okb]
      have ei : (if (big.any fun v => decide (v ∈ l)) = true then Res.ok (D.lst ((bars rs l).map nD)) else Res.ok (D.lst [])) = Res.ok (D.lst ((if (big.any fun u => decide (u ∈ l)) = true then bars rs l else []).map nD)) := by
        cases big.any fun u => decide (u ∈ l) <;> rfl
      rw [ei, okb, eq_natsL, okb]
      show (if keepB rs big l = true then _ else _ : Res (List D)).bind _ = _
      cases keepB rs big l with
      | true =>
        rw [if_pos rfl, if_pos rfl, app_ok (by rw [List.length_map]; omega), okb, okb, List.map_append]
        rfl
      | false => rw [if_neg (by simp), if_neg (by simp), okb]
    rw [List.map_cons, foldV, e, okb, List.filter_cons]
    cases keepB rs big l with
    | true =>
      rw [if_pos rfl, if_pos rfl, keep_walk hn ls (acc ++ [l]) (by rw [List.length_append, List.length_singleton]; omega), List.append_assoc]
      rfl
    | false => rw [if_neg (by simp), if_neg (by simp), keep_walk hn ls acc (by omega)]
theorem alike_ints : ∀ a b : List Nat, PySem.W.alikeAll (D.pys (a.map nD)) (D.pys (b.map nD)) = true
  | [], b => by simp [D.pys, PySem.W.alikeAll]
  | a :: l, [] => by simp [D.pys, PySem.W.alikeAll]
  | a :: l, b :: m => by
    have := alike_ints l m
    simp only [List.map_cons, D.pys, PySem.W.alikeAll, this, Bool.and_true]
    simp [D.py, PySem.W.alike]
/-- lots sorted: the same ones -/
theorem sort_parts {ls : List (List Nat)} (h0 : ∀ l ∈ ls, l ≠ []) (hz : ls.length ≤ 900000) : ∃ ms : List (List Nat), sortV (.lst (ls.map partD)) = .ok (ms.map partD) ∧ ms.Perm ls := by
  refine ⟨ls.mergeSort fun a b => PySem.W.dataLe false D.py (partD a) (partD b), ?_, List.mergeSort_perm _ _⟩
  have e1 : allAlike (ls.map partD) = true := by
    unfold allAlike
    rw [List.all_eq_true]
    intro d hd
    rw [List.all_eq_true]
    intro e he
    obtain ⟨a, _, rfl⟩ := List.mem_map.mp hd
    obtain ⟨b, _, rfl⟩ := List.mem_map.mp he
    unfold partD
    rw [D.py, D.py, PySem.W.alike]
    exact alike_ints a b
  have e2 : (ls.map partD).all isTup1 = true := by
    rw [List.all_eq_true]
    intro d hd
    obtain ⟨a, ha, rfl⟩ := List.mem_map.mp hd
    have := h0 a ha
    cases a with
    | nil => exact absurd rfl this
    | cons x a => rfl
  have e3 : ((ls.map partD).all fun d => decide (d.dep ≤ 60)) = true := by
    rw [List.all_eq_true]
    intro d hd
    obtain ⟨a, ha, rfl⟩ := List.mem_map.mp hd
    exact decide_eq_true (by have := dep_nats a; unfold partD; omega)
  have e4 : decide ((ls.map partD).length ≤ sizeLine) = true := sz_ok (by rw [List.length_map]; omega)
  unfold sortV sortS
  dsimp only [Pf.listOf]
  rw [e1, e2, e3, e4]
  show Res.ok (OV.ers ((sortD (ls.map partD)).map OV.fz)) = _
  rw [OV.ers_fz]
  unfold sortD
  rw [List.map_mergeSort (f := partD) fun a _ b _ => rfl]
theorem parts_spec {rs : List Room} {k : Nat} (g : Rms rs) (hn : rs.length ≤ 11) (big : Option Nat) : ∃ parts : List (List Nat), v__law_parts (dunD rs k) (oD big) = .ok (parts.map partD) ∧ (∀ l, l ∈ parts ↔ Lot rs.length l ∧ isPartB rs big (fun v => decide (v ∈ l)) = true) ∧ parts.length ≤ 3000 := by
  have hpos := g.pos
  have hgl := gen_len rs rs.length
  have hp : 2 ^ rs.length ≤ 2 ^ 11 := Nat.pow_le_pow_right (by decide) (by omega)
  have hz : (2 : Nat) ^ 11 = 2048 := by decide
  have hfl := List.length_filter_le (keepB rs big) (gen rs rs.length)
  have mem : ∀ l, l ∈ (gen rs rs.length).filter (keepB rs big) ↔ Lot rs.length l ∧ isPartB rs big (fun v => decide (v ∈ l)) = true := fun l => by
    rw [List.mem_filter]
    constructor
    · rintro ⟨h1, h2⟩
      have G := gen_sound g rs.length hpos (Nat.le_refl _) l h1
      exact ⟨⟨G.sorted, G.lt⟩, (keep_iff g G).mp h2⟩
    · rintro ⟨h1, h2⟩
      have hl : l ∈ gen rs rs.length := by
        have := gen_full g (q := fun v => decide (v ∈ l)) (isPartB_iff.mp h2).1 (fun u p h0 hu hp => by
          have hr := (isPartB_iff.mp h2).2 u h0 hu
          have hr : rightlyB (decide (u ∈ l)) ((parOf rs u).any fun u => decide (u ∈ l)) (big.any fun u => decide (u ∈ l)) (decide (wayOf rs u = .bar)) (decide (wayOf rs u = .lck)) = true := hr
          rw [hp] at hr
          have hb : ((some p).any fun u => decide (u ∈ l)) = decide (p ∈ l) := rfl
          rw [hb] at hr
          constructor
          · intro z
            rw [z] at hr
            cases hd : decide (p ∈ l) with
            | true => rfl
            | false => rw [hd] at hr; cases hr
          · intro z
            rw [z] at hr
            cases hd : decide (p ∈ l) with
            | false => exact .inl rfl
            | true =>
              refine .inr fun hw => ?_
              rw [hd, hw] at hr
              cases hr) rs.length hpos (Nat.le_refl _)
        rwa [lot_self h1.sorted h1.lt] at this
      exact ⟨hl, (keep_iff g (gen_sound g rs.length hpos (Nat.le_refl _) l hl)).mpr h2⟩
  obtain ⟨ms, e, hperm⟩ := sort_parts (ls := (gen rs rs.length).filter (keepB rs big)) (fun l hl => by
    have G := gen_sound g rs.length hpos (Nat.le_refl _) l (List.mem_filter.mp hl).1
    exact List.ne_nil_of_mem G.zero) (by omega)
  refine ⟨ms, ?_, fun l => by rw [hperm.mem_iff]; exact mem l, by rw [hperm.length_eq]; omega⟩
  unfold v__law_parts
  rw [okb, dun0, okb, enum_rooms, okb, gen_walk g hn, okb, okb, itemsV_lst, okb]
  have hk := keep_walk (k := k) (big := big) (rs := rs) (by omega) (gen rs rs.length) [] (by simp; omega)
  rw [List.nil_append] at hk
  show (foldV _ _ (List.map partD [])).bind _ = _
  rw [hk, okb, e, okb]
theorem mem_parts (neg : Bool) (a : List Nat) (ls : List (List Nat)) : memV neg (partD a) (.lst (ls.map partD)) = .ok (neg.xor (decide (a ∈ ls))) := by
  show gd (decide ((partD a).dep ≤ 60)) _ = _
  rw [decide_eq_true (by have := dep_nats a; unfold partD; omega)]
  have : D.mem (partD a) (ls.map partD) = decide (a ∈ ls) := by
    unfold D.mem
    rw [List.any_map]
    apply Bool.eq_iff_iff.mpr
    rw [List.any_eq_true, decide_eq_true_eq]
    constructor
    · rintro ⟨m, hm, e⟩
      have e : D.eqv (partD m) (partD a) = true := e
      unfold partD at e
      rw [eqv_nats, decide_eq_true_eq] at e
      subst e; exact hm
    · intro h
      refine ⟨a, h, ?_⟩
      show D.eqv (partD a) (partD a) = true
      exact eqv_self _
  rw [this]
  rfl
end Lw

/-! PfC: l.index(x); a list of new lists; a, (b, c) = e1, e2 with own lists among them; found[k].extend(e). -/
namespace Pf
open PySem PySem.Spec PyProof.Rows L2
/-- the first place of an equal one -/
def fstIx (x : D) : List D → Option Nat
  | [] => none
  | y :: ys => if D.eqv y x then some 0 else (fstIx x ys).map (· + 1)
theorem fstIx_spec {x : D} : ∀ {ys : List D} {j : Nat}, fstIx x ys = some j → (∃ z, ys[j]? = some z ∧ D.eqv z x = true) ∧ ∀ m z, m < j → ys[m]? = some z → D.eqv z x = false
  | [], _, h => by cases h
  | y :: ys, j, h => by
    unfold fstIx at h
    by_cases hy : D.eqv y x = true
    · rw [if_pos hy] at h
      cases h
      exact ⟨⟨y, rfl, hy⟩, fun m z hm => absurd hm (by omega)⟩
    · rw [if_neg hy] at h
      cases hi : fstIx x ys with
      | none => rw [hi] at h; cases h
      | some k =>
        rw [hi] at h
        cases h
        obtain ⟨⟨z, e1, e2⟩, g⟩ := fstIx_spec hi
        refine ⟨⟨z, by simpa using e1, e2⟩, fun m z hm hz => ?_⟩
        cases m with
        | zero =>
          have : y = z := by simpa using hz
          subst this
          simpa using hy
        | succ m =>
          have hm : m + 1 < k + 1 := hm
          exact g m z (by omega) (by simpa using hz)
def lstItems : D → Option (List D)
  | .lst xs => some xs
  | _ => none
def indexS (o o' : OV) : Res OV := match lstItems o.er with
  | some es => match fstIx o'.er es with
    | some j => gd (decide (o'.er.dep ≤ 60)) (.fz (.int (j : Nat)))
    | none => .bad
  | none => .bad
/-- what is a list -/
def lsF (f : FP) : FP := fun τ => (f τ).bind fun (p, τ1) => match vw τ1 (opd p) with
  | some o => match lstItems o.er with
    | some _ => .ok (p, τ1)
    | none => .bad
  | none => .bad
theorem View.lst {K : PySem.W.Frag} {F H : Hp} {o : OV} {v : V} {es : List D} (s : Same F H) (w : View K F H o v) (e : lstItems o.er = some es) : ∃ a vs, v = .ref a ∧ SqL K H a vs := by
  obtain ⟨as, w⟩ := w
  cases o with
  | ls xs =>
    rw [Own] at w
    obtain ⟨a, vs, bs, rfl, e2, q, n, r⟩ := w
    exact ⟨a, vs, rfl, SqL.of q⟩
  | fz d =>
    rw [Own.fz_iff] at w
    obtain ⟨_, w⟩ := w
    cases d with
    | lst xs =>
      rw [Rep] at w
      obtain ⟨a, vs, rfl, q, r⟩ := w
      exact ⟨a, vs, rfl, (q.mono s).sql⟩
    | _ => cases e
section
variable {X : Cx} {io : List Nat} {pos : Pos} {f g : FP}
/-- the reading of the method -/
def rIdx (K : PySem.W.Frag) : V → List V → Hp → VK → Prop := fun x xs H Q => ∃ y F o o' r, xs = [y] ∧ Same F H ∧ View K F H o x ∧ View K F H o' y ∧ indexS o o' = .ok r ∧ ∀ z F' H', Grow K F H r z F' H' → Q z H'
theorem mt_idx (hu : X.A.units + 65 < cLine) : MtR X "list.index" (rIdx X.K) := by
  intro pins s σ H x xs v us Q I rx rxs h
  obtain ⟨y, F, o, o', r, rfl, sm, w1, w2, e, q⟩ := h
  cases rxs with
  | cons ry rt =>
    rename_i uy ut
    cases rt
    obtain ⟨as, r1⟩ := w1.reads (K := X.K) I sm rx
    obtain ⟨bs, r2⟩ := w2.reads (K := X.K) I sm ry
    unfold indexS at e
    cases ho : lstItems o.er with
    | none => rw [ho] at e; cases e
    | some es =>
      rw [ho] at e
      dsimp only at e
      cases hi : fstIx o'.er es with
      | none => rw [hi] at e; cases e
      | some j =>
        rw [hi] at e
        obtain ⟨hz, rfl⟩ := gd_ok e
        have hz : o'.er.py.depth ≤ 60 := of_decide_eq_true hz
        have q := q _ _ _ (grow_int sm ((j : Nat) : Int))
        have hoe : o.er = .lst es := by
          cases hx : o.er with
          | lst ys => rw [hx] at ho; cases ho; rfl
          | _ => rw [hx] at ho; cases ho
        rw [hoe, D.py] at r1
        obtain ⟨⟨z, hjz, hzj⟩, hno⟩ := fstIx_spec hi
        have hr : X.A.units + 1 + min (PyData.depthAll (D.pys es)) o'.er.py.depth < cLine := by omega
        cases r1 with
        | list h1 h2 h3 h4 =>
          rename_i a ob its n as'
          obtain ⟨cls, dd, data, sls⟩ := ob
          simp only at h2 h3
          subst h2 h3
          have hmap : its.toList.map (SeqAt.readOf s.heap) = D.pys es := SeqAt.readsAll_map_plain _ _ _ (D.plains es) h4
          have hlen : its.size = es.length := by
            have := congrArg List.length hmap
            rw [List.length_map, D.pys_map, List.length_map] at this
            simpa using this
          have at_ : ∀ (m : Nat) (hm : m < its.size) (z' : D), es[m]? = some z' → SeqAt.readOf s.heap its[m] = z'.py := by
            intro m hm z' hz'
            have h5 : (its.toList.map (SeqAt.readOf s.heap))[m]? = some z'.py := by
              rw [hmap, D.pys_map, List.getElem?_map, hz']; rfl
            rw [List.getElem?_map, Array.getElem?_toList, Array.getElem?_eq_getElem hm] at h5
            exact Option.some.inj h5
          have hjl : j < es.length := (List.getElem?_eq_some_iff.mp hjz).1
          have hj : j < its.size := by omega
          have hsz : its.size ≤ sizeLine := by
            obtain ⟨a2, vs2, ev, hq⟩ := w1.lst (K := X.K) sm ho
            subst ev
            cases rx
            obtain ⟨its2, rv, ⟨⟨cls2, dd2, data2, sl2⟩, n2, ho2, hc2, hdn2, hdt2⟩, hlen2⟩ := I.list hq
            simp only at hc2 hdt2
            subst hc2 hdt2
            rw [h1] at ho2
            cases ho2
            have := rv.length
            rw [this] at hlen2
            simpa using hlen2
          have hsl := sizeLine_eq
          refine call_meets PySem.F.slot_list_index ⟨_, h1, rfl⟩ PySem.F.entry_list_index (PySem.F.args_list_index_2 _ _)
            (SeqAt.list_indexAt a its n dd sls uy (fun u => PyData.eqv (SeqAt.readOf s.heap u) o'.er.py) j hj (by omega) ?_ ?_) ⟨h1, SeqAt.items_plain h4 r2 (D.plains es) (D.plain _) hr, ?_⟩
          · show PyData.eqv (SeqAt.readOf s.heap its[j]) o'.er.py = true
            rw [at_ j hj z hjz]
            exact hzj
          · intro m hm hmj
            have hmd : m < es.length := by omega
            have hz' : es[m]? = some es[m] := List.getElem?_eq_getElem hmd
            show PyData.eqv (SeqAt.readOf s.heap its[m]) o'.er.py = false
            rw [at_ m hm _ hz']
            exact hno m _ hmj hz'
          · exact ⟨.int (j : Nat), H, I.tok _, ⟨_, rfl⟩, q⟩
theorem idx_open {σ : L2.St} {H : Hp} {Q : VK} (h : rdP X.K io (two (lsF f) g indexS) σ H Q) : tBM X.K "list" (rIdx X.K) (rdP X.K io f) (tCons (rdP X.K io g) tNil) σ H Q := by
  obtain ⟨C, F, fp, τ, p, τ', hio, R, e, q⟩ := h
  unfold two at e
  obtain ⟨⟨p1, τ1⟩, e1, e⟩ := Res.bind_ok e
  obtain ⟨⟨p2, τ2⟩, e2, e⟩ := Res.bind_ok e
  obtain ⟨⟨p0, τ0⟩, e0, e1⟩ := Res.bind_ok e1
  dsimp only at e1
  cases hv : vw τ0 (opd p0) with
  | none => rw [hv] at e1; cases e1
  | some o0 =>
    rw [hv] at e1
    dsimp only at e1
    cases hl : lstItems o0.er with
    | none => rw [hl] at e1; cases e1
    | some es =>
      rw [hl] at e1
      cases e1
      refine ⟨C, F, fp, τ, p1, τ1, hio, R, e0, fun F1 fp1 H1 x R1 s1 w1 => ?_⟩
      obtain ⟨F1', R1', s1', w1'⟩ := R1.opd w1
      obtain ⟨a, vs, rfl, hq⟩ := (R1'.vw w1' hv).lst R1'.sub hl
      refine ⟨.inl ⟨rfl, vs, hq⟩, C, F1', fp1, τ1, p2, τ2, hio, R1', e2, fun F2 fp2 H2 y R2 s2 w2 => ?_⟩
      obtain ⟨F2', R2', s2', w2'⟩ := R2.opd w2
      dsimp only at e
      cases hx : vw τ2 (opd p1) with
      | none => rw [hx] at e; cases e
      | some ox =>
        cases hy : vw τ2 (opd p2) with
        | none => rw [hx, hy] at e; cases e
        | some oy =>
          rw [hx, hy] at e
          obtain ⟨r, e3, e4⟩ := Res.bind_ok e
          cases e4
          refine ⟨y, F2', ox, oy, r, rfl, R2'.sub, R2'.vw (w1'.mono (s2.trans s2')) hx, R2'.vw w2' hy, e3, fun z F3 H3 g3 => ?_⟩
          obtain ⟨R3, as, t3⟩ := g3.rel R2'
          exact q F3 fp2 H3 z R3 (((s1.trans s1').trans (s2.trans s2')).trans g3.frozen) ⟨as, t3⟩
/-- l.index(e) -/
theorem xp_index (hu : X.A.units + 65 < cLine) {o e : Expr} {apos cpos : Pos} (ho : XP X io o f) (hn : notStar e = true) (ha : XP X io e g)
    (hbase : attributeBase o "index" X.env (eval o X.env) = eval o X.env) (hline : (apos.endLine == cpos.line) = true) : XP X io (.Call (.Attribute o "index" apos) [e] [] cpos) (two (lsF f) g indexS) := by
  have hall : [e].all notStar = true := by rw [List.all_cons, hn]; rfl
  refine pe_weak (pe_bm PySem.F.plainAttrs_list PySem.F.slot_list_index PySem.F.type_list_index (mt_idx hu) ho (pa_cons ha pa_nil (star_cons hn)) hbase ?_ hline (star_cons hn) rfl) fun σ H Q w => idx_open w
  rw [star_all hall, Bool.true_and]
  rfl
end

/-! a list of new lists -/
section
variable {X : Cx} {io : List Nat} {pos : Pos}
def lstO (h : FO') : FP := fun τ => (h τ).bind fun (rs, τ1) => gd (decide (rs.length ≤ sizeLine)) (.val (.ls rs), τ1)
theorem pendOwns {K : PySem.W.Frag} {F H H0 : Hp} {pd : List (OV × V × List Addr)} : ∀ {l : List (OV × V × List Addr)}, (∀ t ∈ l, Own K F H t.1 t.2.1 t.2.2) → PendL H0 pd l → Owns K F H (l.map (·.1)) (l.map (·.2.1)) (l.flatMap (·.2.2))
  | [], _, _ => by rw [List.map_nil, Owns]; exact ⟨rfl, rfl⟩
  | t :: l, w, p => by
    rw [List.map_cons, Owns]
    refine ⟨t.2.1, _, t.2.2, l.flatMap (·.2.2), rfl, by rw [List.flatMap_cons], w t List.mem_cons_self, pendOwns (fun u hu => w u (List.mem_cons_of_mem _ hu)) p.2, fun a ha hb => ?_⟩
    obtain ⟨u, hu, hau⟩ := List.mem_flatMap.mp hb
    exact (p.1 a ha).2.2 u hu hau
theorem PendL.mem {H0 : Hp} {pd : List (OV × V × List Addr)} : ∀ {l : List (OV × V × List Addr)}, PendL H0 pd l → ∀ t ∈ l, ∀ a ∈ t.2.2, H0 a = none ∧ ∀ p ∈ pd, a ∉ p.2.2
  | [], _, t, ht, _, _ => absurd ht (by simp)
  | u :: l, q, t, ht, a, ha => by
    rcases List.mem_cons.mp ht with rfl | ht
    · exact ⟨(q.1 a ha).1, (q.1 a ha).2.1⟩
    · exact PendL.mem q.2 t ht a ha
theorem xp_lstO {es : List Expr} {h : FO'} (ha : XL X io es h) : XP X io (.List es pos) (lstO h) := by
  refine pe_weak (pe_lst ha) fun σ H Q hh => ?_
  obtain ⟨C, F, fp, τ, p, τ', hio, R, e, q⟩ := hh
  obtain ⟨⟨rs, τ1⟩, e1, e⟩ := Res.bind_ok e
  obtain ⟨hz, e⟩ := gd_ok e
  have hz := of_decide_eq_true hz
  cases e
  refine ⟨C, F, fp, τ, rs, τ', hio, R, e1, fun F1 fp1 H1 l R1 s1 pl el => ?_⟩
  subst el
  refine ⟨by rw [List.length_map] at hz ⊢; exact hz, fun a na => ?_⟩
  have R2 : Rel X.K (C.pendTo (l ++ C.pend)) F1 fp1 τ' σ (upd H1 a (.lst (l.map (·.2.1)))) := R1.grow (same_new na) (Same.refl _) (same_updF R1.sub (R1.sub.free na)) fun b o e => .inl e
  have hp : ∀ t ∈ l, ∀ b ∈ t.2.2, F1 b = none ∧ H1 b ≠ none ∧ ∀ i, b ∉ fp1 i := fun t ht b hb => (R1.pend t (List.mem_append_left _ ht)).2 b hb
  have ow : Owns X.K F1 (upd H1 a (.lst (l.map (·.2.1)))) (l.map (·.1)) (l.map (·.2.1)) (l.flatMap (·.2.2)) := pendOwns (fun t ht => (R2.pend t (List.mem_append_left _ ht)).1) pl
  have hna : a ∉ l.flatMap (·.2.2) := fun z => by
    obtain ⟨u, hu, hau⟩ := List.mem_flatMap.mp z
    exact (hp u hu a hau).2.1 na
  have R3 : Rel X.K C F1 fp1 τ' σ (upd H1 a (.lst (l.map (·.2.1)))) := Rel.repend (C := C) (l' := C.pend) R2 fun t ht => R2.pend t (List.mem_append_right _ ht)
  refine q F1 fp1 _ (.ref a) R3 s1 ⟨a :: l.flatMap (·.2.2), ⟨?_, ?_, ?_, ?_⟩⟩
  · rw [Own]
    exact ⟨a, _, _, rfl, rfl, upd_same, hna, ow⟩
  · intro b hb i
    rcases List.mem_cons.mp hb with rfl | hb
    · exact fun z => R1.lay i b z na
    · obtain ⟨u, hu, hau⟩ := List.mem_flatMap.mp hb
      exact (hp u hu b hau).2.2 i
  · intro b hb
    rcases List.mem_cons.mp hb with rfl | hb
    · exact ⟨R1.sub.free na, R1.stay b na⟩
    · obtain ⟨u, hu, hau⟩ := List.mem_flatMap.mp hb
      exact ⟨(hp u hu b hau).1, (PendL.mem pl u hu b hau).1⟩
  · intro b hb t ht
    rcases List.mem_cons.mp hb with rfl | hb
    · exact fun z => ((R1.pend t (List.mem_append_right _ ht)).2 b z).2.1 na
    · obtain ⟨u, hu, hau⟩ := List.mem_flatMap.mp hb
      exact (PendL.mem pl u hu b hau).2 t ht
end
/-! a, (b, c), d = e1, e2, e3: own lists stay own, data are taken apart -/
section
variable {X : Cx} {io : List Nat} {pos : Pos}
abbrev FM := List OV → T → Res T
def rdM (K : PySem.W.Frag) (io : List Nat) (m : FM) : TGs := fun us σ H Q => ∃ C F fp τ l τ', C.ios.map (·.1) = io ∧ Rel K (C.pendTo (l ++ C.pend)) F fp τ σ H ∧ PendL C.H0 C.pend l ∧ us = l.map (·.2.1) ∧ m (l.map (·.1)) τ = .ok τ' ∧
  ∀ F' fp' σ', Rel K C F' fp' τ' σ' H → Same F F' → Q σ' H
def XM (X : Cx) (io : List Nat) (ts : List Expr) (m : FM) : Prop := PGs X ts (rdM X.K io m) ∧ ts.all notStar = true
def nilM : FM := fun rs τ => match rs with
  | [] => .ok τ
  | _ => .bad
def nameM (io : List Nat) (i : Nat) (m : FM) : FM := fun rs τ => match rs with
  | r :: rs => (putS io i r τ).bind fun τ1 => m rs τ1
  | [] => .bad
def fzM (g : FG) (m : FM) : FM := fun rs τ => match rs with
  | .fz d :: rs => (g d τ).bind fun τ1 => m rs τ1
  | _ => .bad
theorem xm_nil : XM X io [] nilM := by
  refine ⟨pgs_weak pgs_nil fun us σ H Q ⟨C, F, fp, τ, l, τ', hio, R, pl, eu, e, q⟩ => ?_, rfl⟩
  cases l with
  | nil =>
    cases e
    exact ⟨eu, q F fp σ R (Same.refl _)⟩
  | cons t l => cases e
theorem xm_name {i : Nat} {x : Str} {ts : List Expr} {m : FM} (hN : X.N.Nodup) (hi : X.N[i]? = some x) (hx : Loc X.env.scope x) (hf : X.fn x = true ∨ X.env.scope.names.lookup x = some .local) (r : XM X io ts m) : XM X io (.Name x pos :: ts) (nameM io i m) := by
  refine ⟨pgs_weak (pgs_cons (pg_name (i := i) hN hi hx hf) r.1 (assign_cons rfl)) fun us σ H Q ⟨C, F, fp, τ, l, τ', hio, R, pl, eu, e, q⟩ => ?_, by rw [List.all_cons, r.2]; rfl⟩
  cases l with
  | nil => cases e
  | cons t l =>
    subst eu
    obtain ⟨τ1, e1, e2⟩ := Res.bind_ok e
    have tm := Rel.unPend (C := C) (l := l ++ C.pend) R (fun a ha => (pl.1 a ha).1) fun a ha p hp => by
      rcases List.mem_append.mp hp with hp | hp
      · exact (pl.1 a ha).2.2 p hp
      · exact (pl.1 a ha).2.1 p hp
    have R1 := Rel.put (C := C.pendTo (l ++ C.pend)) hio R.dropPend tm e1
    exact ⟨t.2.1, l.map (·.2.1), rfl, C, F, _, τ1, l, τ', hio, R1, pl.2, rfl, e2, q⟩
theorem xm_fz {tg : Expr} {ts : List Expr} {g : FG} {vs : List Nat} {m : FM} (hn : notStar tg = true) (hg : XG X io vs tg g) (r : XM X io ts m) : XM X io (tg :: ts) (fzM g m) := by
  refine ⟨pgs_weak (pgs_cons hg r.1 (assign_cons hn)) fun us σ H Q ⟨C, F, fp, τ, l, τ', hio, R, pl, eu, e, q⟩ => ?_, by rw [List.all_cons, hn, r.2]; rfl⟩
  cases l with
  | nil => cases e
  | cons t l =>
    subst eu
    obtain ⟨o, v, as⟩ := t
    cases o with
    | ls xs => cases e
    | fz d =>
      obtain ⟨τ1, e1, e2⟩ := Res.bind_ok e
      have w := (R.pend (.fz d, v, as) List.mem_cons_self).1
      rw [Own.fz_iff] at w
      refine ⟨v, l.map (·.2.1), rfl, C.pendTo (l ++ C.pend), F, fp, τ, d, τ1, hio, R.dropPend, w.2, e1, fun F1 fp1 σ1 R1 s1 o1 => ?_⟩
      exact ⟨C, F1, fp1, τ1, l, τ', hio, R1, pl.2, rfl, e2, fun F2 fp2 σ2 R2 s2 => q F2 fp2 σ2 R2 (s1.trans s2)⟩
def parM (h : FO') (m : FM) : FS := fun τ => (h τ).bind fun (rs, τ1) => (m rs τ1).bind fun τ2 => .ok (.nx, τ2)
theorem Rel.pendLen {us : List V} {l : List (OV × V × List Addr)} (h : us = l.map (·.2.1)) : us.length = l.length := by rw [h, List.length_map]
variable {cd : Cd} {k : Nat}
theorem Bd.mname (B : Bd X cd k) {i : Nat} {x : Str} {ts : List Expr} {m : FM} (h : locC cd.N cd.sc cd.fb i x = true) (r : XM X io ts m) : XM X io (.Name x pos :: ts) (nameM io i m) := by
  obtain ⟨h1, h2, h3, h4⟩ := B.locs h
  exact xm_name h1 h2 h3 h4 r
/-- as many values as targets -/
def lenM (n : Nat) (m : FM) : FM := fun rs τ => if rs.length = n then m rs τ else .bad
theorem Bd.parM (B : Bd X cd k) {ts es : List Expr} {kt k2 : Nat} {pt pt2 : Pos} {h : FO'} {m : FM} (hk : cd.sc.kind = .function) (hw : swC cd.sc ts es = none) (hca : (!(es.all (constantsAlone 8)) || es.all (foldedForSure 8)) = true) (hz : ts.length ≤ 1000) (hn : XM X io ts m) (ha : XL X io es h) :
    XS X io (.Assign [.Tuple ts kt pt] (.Tuple es k2 pt2) pos) (Pf.parM h (lenM ts.length m)) := by
  obtain ⟨l1, l2⟩ := assign_len (env := X.env) hn.2
  have hs : swappedStores [.Tuple ts kt pt] (.Tuple es k2 pt2) X.env = pure none := by rw [swapped_by (by rw [B.sc]; exact hk) hca, B.sc, hw]
  refine ps_weak (ps_asg (pe_tup ha) (pg_tup B.calm hn.1 l1 l2) rfl hs) fun D σ H w => ?_
  obtain ⟨C, F, fp, τ, fl, τ', hio, R, e, q⟩ := w
  obtain ⟨⟨rs, τ1⟩, e1, e⟩ := Res.bind_ok e
  obtain ⟨τ2, e2, e⟩ := Res.bind_ok e
  cases e
  refine ⟨C, F, fp, τ, rs, τ1, hio, R, e1, fun F1 fp1 H1 l R1 s1 pl el => ?_⟩
  subst el
  unfold lenM at e2
  by_cases hl : (l.map (·.1)).length = ts.length
  · rw [if_pos hl] at e2
    have hl2 : (l.map (·.2.1)).length = ts.length := by rw [List.length_map] at hl ⊢; exact hl
    refine ⟨by rw [hl2]; exact Nat.le_trans hz (by decide), fun p np => ?_⟩
    have R2 : Rel X.K (C.pendTo (l ++ C.pend)) F1 fp1 τ1 σ (upd H1 p (.tup (l.map (·.2.1)))) := R1.grow (fun b o hb => by rw [upd_ne (ne_of_none hb np)]; exact hb) (Same.refl _) (fun b o hb => by rw [upd_ne (ne_of_none (R1.sub b o hb) np)]; exact R1.sub b o hb) fun a o e => .inl e
    refine ⟨p, _, rfl, .inl (.inl upd_same), hl2, C, F1, fp1, τ1, l, _, hio, R2, pl, rfl, e2, fun F2 fp2 σ2 R3 s2 => ?_⟩
    exact q F2 fp2 _ _ R3 (s1.trans s2)
  · rw [if_neg hl] at e2; cases e2
end
/-! found[k].m(e, ..): the slot is hidden while the arguments are worked out -/
section
variable {K : PySem.W.Frag} {C : Fx} {F F' : Hp} {fp fp' : Nat → List Addr} {τ τ' : T} {σ : L2.St} {H H' : Hp}
def Fx.hid (C : Fx) (as : List Addr) (H : Hp) : Fx := { C with H0 := fun a => if a ∈ as then H a else C.H0 a, io := fun a => if a ∈ as then none else C.io a }
theorem Rel.hide {i : Nat} {o : OV} (R : Rel K C F fp τ σ H) (e : slotAt τ i = some o) : Rel K (C.hid (fp i) H) F (fpSet fp i []) (τ.set i none) σ H := by
  refine ⟨R.sub, R.old, fun a o h1 h2 => ?_, fun a o h => ?_, by rw [List.length_set]; exact R.len, fun j u h => ?_, fun j l a h1 h2 => ?_, fun j a h => ?_, fun j a h => ?_, fun a h => ?_, R.lent, fun a j h => ?_, fun t ht => ?_⟩
  · by_cases ha : a ∈ fp i
    · have : H a = some o := by simpa [Fx.hid, ha] using h1
      exact this
    · exact R.frame a o (by simpa [Fx.hid, ha] using h1) (by simpa [Fx.hid, ha] using h2)
  · rcases R.new a o h with z | z
    · exact .inl z
    · by_cases ha : a ∈ fp i
      · rw [(R.own i a ha).1] at h; cases h
      · exact .inr (by simpa [Fx.hid, ha] using z)
  · by_cases hj : j = i
    · subst hj
      unfold slotAt at h
      rw [List.getElem?_set_self (slotAt_lt e)] at h
      cases h
    · rw [slotAt_set_ne (Ne.symm hj)] at h
      obtain ⟨v, e1, w⟩ := R.slot j u h
      exact ⟨v, e1, by simpa [fpSet, hj] using w⟩
  · by_cases hj : j = i
    · simp [fpSet, hj] at h1
    · by_cases hl : l = i
      · simp [fpSet, hl] at h2
      · exact R.apart j l a (by simpa [fpSet, hj] using h1) (by simpa [fpSet, hl] using h2)
  · by_cases hj : j = i
    · simp [fpSet, hj] at h
    · have h : a ∈ fp j := by simpa [fpSet, hj] using h
      have ha : a ∉ fp i := fun z => hj (R.apart j i a h z)
      exact ⟨(R.own j a h).1, by simpa [Fx.hid, ha] using (R.own j a h).2⟩
  · by_cases hj : j = i
    · simp [fpSet, hj] at h
    · exact R.lay j a (by simpa [fpSet, hj] using h)
  · by_cases ha : a ∈ fp i
    · simpa [Fx.hid, ha] using h
    · simpa [Fx.hid, ha] using R.stay a h
  · by_cases ha : a ∈ fp i
    · simp [Fx.hid, ha] at h
    · exact R.ioc a j (by simpa [Fx.hid, ha] using h)
  · obtain ⟨w, g⟩ := R.pend t ht
    refine ⟨w, fun a ha => ⟨(g a ha).1, (g a ha).2.1, fun j => ?_⟩⟩
    by_cases hj : j = i
    · simp [fpSet, hj]
    · simpa [fpSet, hj] using (g a ha).2.2 j
theorem Rel.unhide {i : Nat} {o : OV} (R : Rel K C F fp τ σ H) (e : slotAt τ i = some o) (R' : Rel K (C.hid (fp i) H) F' fp' τ' σ H') (s : Same F F') : Rel K C F' (fpSet fp' i (fp i)) (τ'.set i (some o)) σ H' := by
  have hH : ∀ a ∈ fp i, ∀ u, H a = some u → H' a = some u := fun a ha u hu => R'.frame a u (by simpa [Fx.hid, ha] using hu) (by simp [Fx.hid, ha])
  have hL : ∀ a ∈ fp i, (C.hid (fp i) H).H0 a ≠ none := fun a ha => by simpa [Fx.hid, ha] using R.lay i a ha
  have hO : ∀ a ∈ fp i, (C.hid (fp i) H).io a = none := fun a ha => by simp [Fx.hid, ha]
  have hD : ∀ j a, a ∈ fp' j → a ∉ fp i := fun j a h1 h2 => by
    rcases (R'.own j a h1).2 with z | z
    · exact hL a h2 z
    · rw [hO a h2] at z; cases z
  have hF : ∀ a ∈ fp i, F' a = none := fun a ha => by
    cases hx : F' a with
    | none => rfl
    | some u =>
      rcases R'.new a u hx with z | z
      · have z : C.F0 a ≠ none := z
        cases hy : C.F0 a with
        | none => exact absurd hy z
        | some y =>
          have := R.old a y hy
          rw [(R.own i a ha).1] at this; cases this
      · exact absurd z (hL a ha)
  have il : i < τ'.length := by
    rw [R'.len, ← R.len]; exact slotAt_lt e
  refine ⟨R'.sub, R'.old, fun a u h1 h2 => ?_, fun a u h => ?_, by rw [List.length_set]; exact R'.len, fun j u h => ?_, fun j l a h1 h2 => ?_, fun j a h => ?_, fun j a h => ?_, fun a h => ?_, R.lent, R.ioc, fun t ht => ?_⟩
  · by_cases ha : a ∈ fp i
    · rcases (R.own i a ha).2 with z | z
      · rw [z] at h1; cases h1
      · rw [z] at h2; cases h2
    · exact R'.frame a u (by simpa [Fx.hid, ha] using h1) (by simpa [Fx.hid, ha] using h2)
  · rcases R'.new a u h with z | z
    · exact .inl z
    · by_cases ha : a ∈ fp i
      · exact absurd z (hL a ha)
      · exact .inr (by simpa [Fx.hid, ha] using z)
  · by_cases hj : j = i
    · subst hj
      rw [slotAt_set_same il] at h
      cases h
      obtain ⟨v, e1, w⟩ := R.slot j o e
      exact ⟨v, e1, by simpa [fpSet] using w.keep s hH⟩
    · rw [slotAt_set_ne (Ne.symm hj)] at h
      obtain ⟨v, e1, w⟩ := R'.slot j u h
      exact ⟨v, e1, by simpa [fpSet, hj] using w⟩
  · by_cases hj : j = i
    · by_cases hl : l = i
      · rw [hj, hl]
      · exact absurd (by simpa [fpSet, hj] using h1) (hD l a (by simpa [fpSet, hl] using h2))
    · by_cases hl : l = i
      · exact absurd (by simpa [fpSet, hl] using h2) (hD j a (by simpa [fpSet, hj] using h1))
      · exact R'.apart j l a (by simpa [fpSet, hj] using h1) (by simpa [fpSet, hl] using h2)
  · by_cases hj : j = i
    · have h : a ∈ fp i := by simpa [fpSet, hj] using h
      rw [hj]
      exact ⟨hF a h, (R.own i a h).2⟩
    · have h : a ∈ fp' j := by simpa [fpSet, hj] using h
      have ha := hD j a h
      exact ⟨(R'.own j a h).1, by simpa [Fx.hid, ha] using (R'.own j a h).2⟩
  · by_cases hj : j = i
    · have h : a ∈ fp i := by simpa [fpSet, hj] using h
      cases hx : H a with
      | none => exact absurd hx (R.lay i a h)
      | some u => rw [hH a h u hx]; simp
    · exact R'.lay j a (by simpa [fpSet, hj] using h)
  · by_cases ha : a ∈ fp i
    · exact absurd (R'.stay a h) (hL a ha)
    · simpa [Fx.hid, ha] using R'.stay a h
  · obtain ⟨w, g⟩ := R'.pend t ht
    refine ⟨w, fun a ha => ⟨(g a ha).1, (g a ha).2.1, fun j => ?_⟩⟩
    by_cases hj : j = i
    · simpa [fpSet, hj] using ((R.pend t ht).2 a ha).2.2 i
    · simpa [fpSet, hj] using (g a ha).2.2 j
theorem Owns.inner2 {ys : List OV} : ∀ {xs : List OV} {vs : List V} {bs : List Addr} {j : Nat}, Owns K F H xs vs bs → xs[j]? = some (.ls ys) → ∃ b ws cs, vs[j]? = some (.ref b) ∧ b ∈ bs ∧ H b = some (.lst ws) ∧ Owns K F H ys ws cs ∧
    ∀ ys' ws', Owns K F H ys' ws' cs → Owns K F (upd H b (.lst ws')) (xs.set j (.ls ys')) vs bs
  | [], _, _, _, _, e => by simp at e
  | x :: xs, vs, bs, 0, h, e => by
    rw [Owns] at h
    obtain ⟨v, us, b1, b2, rfl, rfl, q, qs, m⟩ := h
    have e : x = .ls ys := by simpa using e
    subst e
    have q' := q
    rw [Own] at q'
    obtain ⟨b, ws, cs, rfl, rfl, hH, hn, rs⟩ := q'
    refine ⟨b, ws, cs, rfl, by simp, hH, rs, fun ys' ws' rz => ?_⟩
    rw [List.set_cons_zero, Owns]
    refine ⟨.ref b, us, b :: cs, b2, rfl, rfl, ?_, qs.keep (Same.refl _) fun c hc u hu => ?_, m⟩
    · rw [Own]
      refine ⟨b, ws', cs, rfl, rfl, upd_same, hn, rz.keep (Same.refl _) fun c hc u hu => ?_⟩
      rw [upd_ne fun y => hn (by rw [← y]; exact hc)]; exact hu
    · rw [upd_ne fun y => m b List.mem_cons_self (by rw [← y]; exact hc)]; exact hu
  | x :: xs, vs, bs, j + 1, h, e => by
    rw [Owns] at h
    obtain ⟨v, us, b1, b2, rfl, rfl, q, qs, m⟩ := h
    obtain ⟨b, ws, cs, e1, hb, hH, rs, g⟩ := Owns.inner2 (j := j) qs (by simpa using e)
    refine ⟨b, ws, cs, by simpa using e1, List.mem_append_right _ hb, hH, rs, fun ys' ws' rz => ?_⟩
    rw [List.set_cons_succ, Owns]
    refine ⟨v, us, b1, b2, rfl, rfl, q.keep (Same.refl _) fun c hc u hu => ?_, g ys' ws' rz, m⟩
    rw [upd_ne fun y => m c hc (by rw [y]; exact hb)]; exact hu
end

def nmtF (i : Nat) (qi : T → Option D) (h : FA) (k : List OV → List D → Res (D × List OV)) : FP := fun τ => match slotAt τ i, qi τ with
  | some (.ls xs), some (.int c) => match ixN xs.length c with
    | some j => match xs[j]? with
      | some (.ls ys) => (h (τ.set i none)).bind fun (ps, τ1) => match datas ps with
        | some ds => (k ys ds).bind fun (d, zs) => .ok (.val (.fz d), τ1.set i (some (.ls (xs.set j (.ls zs)))))
        | none => .bad
      | _ => .bad
    | none => .bad
  | _, _ => .bad
section
variable {X : Cx} {io : List Nat} {pos : Pos}
theorem nmt_open {id : String} {k : List OV → List D → Res (D × List OV)} {i : Nat} {qi : T → Option D} {h : FA} {σ : L2.St} {H : Hp} {Q : VK} (w : rdP X.K io (nmtF i qi h k) σ H Q) :
    tOp (rIxL X.K) (rdP X.K io (eSlot i)) (rdQ X.K io qi) σ H fun x H1 => tyV X.K "list" x H1 ∧ rdA X.K io h σ H1 fun ws H2 => ∃ F a vs xs ys ds d bs, x = .ref a ∧ Same F H2 ∧ H2 a = some (.lst vs) ∧ Owns X.K F H2 xs vs bs ∧ Reps X.K F ds ws ∧ k xs ds = .ok (d, ys) ∧ ∀ z vs', Rep X.K F d z → Owns X.K F H2 ys vs' bs → Q z (upd H2 a (.lst vs')) := by
  obtain ⟨C, F, fp, τ, p, τ', hio, R, e, q⟩ := w
  unfold nmtF at e
  split at e
  · rename_i xs c hs hi
    split at e
    · rename_i j hj
      split at e
      · rename_i ys hy
        obtain ⟨⟨ps, τ1⟩, e1, e⟩ := Res.bind_ok e
        dsimp only at e
        cases hd : datas ps with
        | none => rw [hd] at e; cases e
        | some ds =>
          rw [hd] at e
          obtain ⟨⟨d, zs⟩, e3, e4⟩ := Res.bind_ok e
          cases e4
          refine ⟨C, F, fp, τ, .sl i, τ, hio, R, by unfold eSlot; rw [hs], fun F1 fp1 H1 x R1 s1 w1 => ?_⟩
          refine ⟨C, F1, fp1, τ, .int c, hio, R1, hi, fun F2 H2 y R2 s2 g2 ry => ?_⟩
          rw [Rep] at ry
          obtain ⟨a, vs, bs, hx, hfp, hH, hn, rs⟩ := R2.listSlot hs
          have hx' : σ[i]? = some (some x) := w1
          rw [hx] at hx'
          cases hx'
          obtain ⟨b, ws, cs, e5, hb, hHb, rb, g⟩ := rs.inner2 hy
          have hat : atI vs c = some (.ref b) := by
            unfold atI
            rw [← rs.length, hj]
            exact e5
          have R2h := R2.hide hs
          refine ⟨a, vs, c, .ref b, rfl, ry, SqL.of hH, hat, .inl ⟨rfl, ws, SqL.of hHb⟩, C.hid (fp1 i) H2, F2, fpSet fp1 i [], τ.set i none, ps, τ1, hio, R2h, e1, fun F3 fp3 H3 us R3 s3 w3 => ?_⟩
          have R4 := R2.unhide hs R3 s3
          have il : i < τ1.length := by rw [R3.len, ← R2.len]; exact slotAt_lt hs
          have hs4 : slotAt (τ1.set i (some (.ls xs))) i = some (.ls xs) := slotAt_set_same il
          obtain ⟨a4, vs4, bs4, hx4, hfp4, hH4, hn4, rs4⟩ := R4.listSlot hs4
          have ea : some (some (V.ref a4)) = some (some (V.ref a)) := hx4.symm.trans hx
          cases ea
          have hfp5 : fp1 i = a :: bs4 := by rw [← hfp4]; simp [fpSet]
          have ebs : bs4 = bs := by rw [hfp] at hfp5; cases hfp5; rfl
          subst ebs
          have ka : ∀ c ∈ fp1 i, ∀ u, H2 c = some u → H3 c = some u := fun c hc u hu => R3.frame c u (by simpa [Fx.hid, hc] using hu) (by simp [Fx.hid, hc])
          have ev := ka a (by rw [hfp]; exact List.mem_cons_self) _ hH
          rw [hH4] at ev
          cases ev
          obtain ⟨b3, ws3, cs3, e6, hb3, hHb3, rb3, gg⟩ := rs4.inner2 hy
          rw [e5] at e6
          cases e6
          have hba : b ≠ a := fun z => hn (by rw [← z]; exact hb)
          refine ⟨F3, b, ws3, ys, zs, ds, d, cs3, rfl, R4.sub, hHb3, rb3, w3.datas hd, e3, fun z vs' rz t => ?_⟩
          have hbi : b ∈ fpSet fp3 i (fp1 i) i := by rw [hfp4]; exact List.mem_cons_of_mem _ hb
          have ow : Own X.K F3 (upd H3 b (.lst vs')) (.ls (xs.set j (.ls zs))) (.ref a) (fpSet fp3 i (fp1 i) i) := by
            rw [Own, hfp4]
            exact ⟨a, vs, _, rfl, rfl, by rw [upd_ne (Ne.symm hba)]; exact hH4, hn4, gg zs vs' t⟩
          have R5 := R4.writeIn hs4 hbi hx4 ow
          rw [List.set_set] at R5
          exact q F3 _ _ z R5 ((s1.trans s2).trans s3) ⟨[], rz.tmp⟩
      · cases e
    · cases e
  · cases e
/-- found[k].m(e, ..) -/
theorem xp_nmt {id : String} {k : List OV → List D → Res (D × List OV)} {i : Nat} {x m : Str} {ek e : Expr} {es : List Expr} {qi : T → Option D} {h : FA} {p ipos apos cpos : Pos} (slot : Slot "list" m id) (hty : typeOf (.builtin id) = pure (.type "method_descriptor")) (hm : MthS X id k) (ho : XP X io (.Name x p) (eSlot i)) (hi : XQ X io ek qi) (hx : noSlice ek = true)
    (ha : XA X io (e :: es) h) (hn : (e :: es).all notStar = true)
    (hbase : attributeBase (.Subscript (.Name x p) ek ipos) m X.env (eval (.Subscript (.Name x p) ek ipos) X.env) = eval (.Subscript (.Name x p) ek ipos) X.env) (hline : (apos.endLine == cpos.line) = true) (hlen : decide ((e :: es).length < 30) = true) :
    XP X io (.Call (.Attribute (.Subscript (.Name x p) ek ipos) m apos) (e :: es) [] cpos) (nmtF i qi h k) := by
  have hn' := hn
  rw [List.all_cons, Bool.and_eq_true] at hn'
  refine pe_weak (pe_bm (r := fun x ws H2 Q => ∃ F a vs xs ys ds d bs, x = .ref a ∧ Same F H2 ∧ H2 a = some (.lst vs) ∧ Owns X.K F H2 xs vs bs ∧ Reps X.K F ds ws ∧ k xs ds = .ok (d, ys) ∧ ∀ z vs', Rep X.K F d z → Owns X.K F H2 ys vs' bs → Q z (upd H2 a (.lst vs'))) PySem.F.plainAttrs_list slot hty ?_ (pe_ix ix_list ho hi (plainIx hx)) ha hbase ?_ hline (star_cons hn'.1) (star_any hn'.2)) fun σ H Q w => nmt_open (id := id) w
  · intro pins s σ H x ws v us Q I rx rv hq
    obtain ⟨F, a, vs, xs, ys, ds, d, bs, rfl, sm, hH, w, r, e, q⟩ := hq
    cases rx
    exact hm pins s σ F H a vs ws us xs ys ds d bs Q I sm hH w rv r e q
  · rw [star_all hn, Bool.true_and]
    show (true && decide ((e :: es).length + 0 + 0 < 30)) = true
    simpa using hlen
variable {cd : Cd} {k : Nat}
theorem Bd.nextend (B : Bd X cd k) {i : Nat} {x : Str} {ek e : Expr} {qi : T → Option D} {h : FA} {p ipos apos cpos : Pos} (hs : slotC cd.N cd.sc i x = true) (hx : noSlice ek = true) (hn : [e].all notStar = true)
    (hbase : attributeBase (.Subscript (.Name x p) ek ipos) "extend" X.env (eval (.Subscript (.Name x p) ek ipos) X.env) = eval (.Subscript (.Name x p) ek ipos) X.env) (hline : (apos.endLine == cpos.line) = true) (hi : XQ X io ek qi) (ha : XA X io [e] h) :
    XP X io (.Call (.Attribute (.Subscript (.Name x p) ek ipos) "extend" apos) [e] [] cpos) (nmtF i qi h extendM) := xp_nmt PySem.F.slot_list_extend PySem.F.type_list_extend mth_extend (B.slot hs) hi hx ha hn hbase hline rfl
theorem Bd.index (B : Bd X cd k) {o e : Expr} {f g : FP} {apos cpos : Pos} (hn : notStar e = true)
    (hbase : attributeBase o "index" X.env (eval o X.env) = eval o X.env) (hline : (apos.endLine == cpos.line) = true) (ho : XP X io o f) (ha : XP X io e g) : XP X io (.Call (.Attribute o "index" apos) [e] [] cpos) (two (lsF f) g indexS) := xp_index B.units ho hn ha hbase hline
end
end Pf

/-! V4: index, lists of new lists, mixed targets, found[k].extend on data. -/
namespace Pf
open PySem PySem.Spec PyProof.Rows L2
/-! index -/
def lstG (d : D) : Res Unit := match lstItems d with
  | some _ => .ok ()
  | none => .bad
def indexV (a b : D) : Res D := match lstItems a with
  | some es => match fstIx b es with
    | some j => gd (decide (b.dep ≤ 60)) (.int (j : Nat))
    | none => .bad
  | none => .bad
def lsK : Pre × T → Res (Pre × T) := fun (p, τ) => match vw τ (opd p) with
  | some o => match lstItems o.er with
    | some _ => .ok (p, τ)
    | none => .bad
  | none => .bad
def lsM (p : Pre) (τ : T) : Option OV → Res (Pre × T)
  | some o => (lstG o.er).bind fun _ => .ok (p, τ)
  | none => .bad
theorem lsF_e (f : FP) (τ : T) : lsF f τ = (f τ).bind lsK := (rfl)
theorem lsK_e (p : Pre) (τ : T) : lsK (p, τ) = lsM p τ (vw τ (opd p)) := by
  unfold lsK lsM lstG
  dsimp only
  cases vw τ (opd p) with
  | none => rfl
  | some o =>
    dsimp only
    cases lstItems o.er <;> rfl
theorem lsM_fz (p : Pre) (τ : T) (d : D) : lsM p τ (some (.fz d)) = (lstG d).bind fun _ => .ok (p, τ) := (rfl)
theorem lsM_wl (p : Pre) (τ : T) (xs : List D) : lsM p τ (some (wl xs)) = .ok (p, τ) := by
  have e : lsM p τ (some (wl xs)) = (lstG (wl xs).er).bind fun _ => Res.ok (p, τ) := rfl
  rw [e, wl_er]; rfl
theorem index_v (x y : OV) : indexS x y = (indexV x.er y.er).bind fun d => .ok (.fz d) := by
  unfold indexS indexV
  cases lstItems x.er with
  | none => rfl
  | some es =>
    dsimp only
    cases fstIx y.er es with
    | none => rfl
    | some j =>
      dsimp only
      rw [gd_bind]
      unfold gd
      rfl
/-! lists of new lists -/
def lstOK : List OV × T → Res (Pre × T) := fun (rs, τ) => gd (decide (rs.length ≤ sizeLine)) (.val (.ls rs), τ)
theorem lstO_e (h : FO') (τ : T) : lstO h τ = (h τ).bind lstOK := (rfl)
theorem lstO_1 (a : List D) (τ : T) : lstOK ([wl a], τ) = .ok (.val (wll [a]), τ) := by
  show gd (decide (([wl a] : List OV).length ≤ sizeLine)) _ = _
  rw [decide_eq_true (show ([wl a] : List OV).length ≤ sizeLine from by show 1 ≤ _; decide)]; rfl
theorem lstO_2 (a b : List D) (τ : T) : lstOK ([wl a, wl b], τ) = .ok (.val (wll [a, b]), τ) := by
  show gd (decide (([wl a, wl b] : List OV).length ≤ sizeLine)) _ = _
  rw [decide_eq_true (show ([wl a, wl b] : List OV).length ≤ sizeLine from by show 2 ≤ _; decide)]; rfl
theorem lstO_3 (a b c : List D) (τ : T) : lstOK ([wl a, wl b, wl c], τ) = .ok (.val (wll [a, b, c]), τ) := by
  show gd (decide (([wl a, wl b, wl c] : List OV).length ≤ sizeLine)) _ = _
  rw [decide_eq_true (show ([wl a, wl b, wl c] : List OV).length ≤ sizeLine from by show 3 ≤ _; decide)]; rfl
theorem lstO_4 (a b c d : List D) (τ : T) : lstOK ([wl a, wl b, wl c, wl d], τ) = .ok (.val (wll [a, b, c, d]), τ) := by
  show gd (decide (([wl a, wl b, wl c, wl d] : List OV).length ≤ sizeLine)) _ = _
  rw [decide_eq_true (show ([wl a, wl b, wl c, wl d] : List OV).length ≤ sizeLine from by show 4 ≤ _; decide)]; rfl
/-! mixed targets -/
def parMK (m : FM) : List OV × T → Res (Fl × T) := fun (rs, τ) => (m rs τ).bind nxK
theorem parM_e (h : FO') (m : FM) (τ : T) : parM h m τ = (h τ).bind (parMK m) := (rfl)
theorem parMK_e (m : FM) (rs : List OV) (τ : T) : parMK m (rs, τ) = (m rs τ).bind nxK := (rfl)
theorem lenM_2 (m : FM) (a b : OV) (τ : T) : lenM 2 m [a, b] τ = m [a, b] τ := (rfl)
theorem lenM_3 (m : FM) (a b c : OV) (τ : T) : lenM 3 m [a, b, c] τ = m [a, b, c] τ := (rfl)
theorem lenM_4 (m : FM) (a b c d : OV) (τ : T) : lenM 4 m [a, b, c, d] τ = m [a, b, c, d] τ := (rfl)
theorem lenM_5 (m : FM) (a b c d e : OV) (τ : T) : lenM 5 m [a, b, c, d, e] τ = m [a, b, c, d, e] τ := (rfl)
def nameMK (m : FM) (rs : List OV) : T → Res T := fun τ => m rs τ
theorem nilM_e (τ : T) : nilM [] τ = .ok τ := (rfl)
theorem nameM_e (io : List Nat) (i : Nat) (m : FM) (r : OV) (rs : List OV) (τ : T) : nameM io i m (r :: rs) τ = (putS io i r τ).bind (nameMK m rs) := (rfl)
theorem fzM_e (g : FG) (m : FM) (d : D) (rs : List OV) (τ : T) : fzM g m (.fz d :: rs) τ = (g d τ).bind (nameMK m rs) := (rfl)
theorem nameMK_e (m : FM) (rs : List OV) (τ : T) : nameMK m rs τ = m rs τ := (rfl)
/-! found[k].extend -/
def nextV (xss : List (List D)) (k d : D) : Res (List (List D)) := match k with
  | .int k => match ixN xss.length k with
    | some j => match xss[j]? with
      | some ys => (extV ys d).bind fun zs => .ok (xss.set j zs)
      | none => .bad
    | none => .bad
  | _ => .bad
def nmtP (i : Nat) (xss : List (List D)) (k : D) (τ : T) : Option (List D) → Res (Pre × T)
  | some [d] => (nextV xss k d).bind fun y => .ok (.val (.fz .non), τ.set i (some (wll y)))
  | _ => .bad
def nmtM (i : Nat) (xss : List (List D)) (k : D) : List Pre × T → Res (Pre × T) := fun (ps, τ) => nmtP i xss k τ (datas ps)
def nmtL (i : Nat) (h : FA) (τ : T) : Option OV → Option D → Res (Pre × T)
  | some (.ls xs), some (.int c) => match ixN xs.length c with
    | some j => match xs[j]? with
      | some (.ls ys) => (h (τ.set i none)).bind fun (ps, τ1) => match datas ps with
        | some ds => (extendM ys ds).bind fun (d, zs) => .ok (.val (.fz d), τ1.set i (some (.ls (xs.set j (.ls zs)))))
        | none => .bad
      | _ => .bad
    | none => .bad
  | _, _ => .bad
theorem nmtF_e (i : Nat) (qi : T → Option D) (h : FA) (τ : T) : nmtF i qi h extendM τ = nmtL i h τ (slotAt τ i) (qi τ) := by
  unfold nmtF nmtL
  rfl
theorem nmtM_e (i : Nat) (xss : List (List D)) (k : D) (ps : List Pre) (τ : T) : nmtM i xss k (ps, τ) = nmtP i xss k τ (datas ps) := (rfl)
theorem nmtP_v (i : Nat) (xss : List (List D)) (k d : D) (τ : T) : nmtP i xss k τ (some [d]) = (nextV xss k d).bind fun y => .ok (.val (.fz .non), τ.set i (some (wll y))) := (rfl)
theorem bad_all {α β : Type} (x : Res α) (f : α → Res β) (h : ∀ a, f a = .bad) : x.bind f = .bad := by
  cases x with
  | bad => rfl
  | ok a => exact h a
theorem nmtP_bad {i : Nat} {xss : List (List D)} {k : D} (h : ∀ d, nextV xss k d = .bad) (a : List Pre × T) : nmtM i xss k a = .bad := by
  obtain ⟨ps, τ⟩ := a
  rw [nmtM_e]
  unfold nmtP
  split
  · rw [h]; rfl
  · rfl
theorem nmtL_v (i : Nat) (h : FA) (τ : T) (xss : List (List D)) (k : D) : nmtL i h τ (some (wll xss)) (some k) = (h (τ.set i none)).bind (nmtM i xss k) := by
  cases k with
  | int k =>
    unfold nmtL wll
    dsimp only
    rw [List.length_map]
    cases hj : ixN xss.length k with
    | none => exact (bad_all _ _ (nmtP_bad fun d => by unfold nextV; dsimp only; rw [hj])).symm
    | some j =>
      dsimp only
      rw [List.getElem?_map]
      cases hy : xss[j]? with
      | none => exact (bad_all _ _ (nmtP_bad fun d => by unfold nextV; dsimp only; rw [hj]; dsimp only; rw [hy])).symm
      | some ys =>
        show (h (τ.set i none)).bind _ = _
        congr 1
        funext a
        obtain ⟨ps, τ1⟩ := a
        rw [nmtM_e]
        show (match datas ps with | some ds => _ | none => _) = _
        cases datas ps with
        | none => rfl
        | some ds =>
          dsimp only
          unfold nmtP
          split
          · rename_i d hd
            cases hd
            show (extendM (ys.map OV.fz) [d]).bind _ = _
            rw [ext_v]
            unfold nextV
            dsimp only
            rw [hj]
            dsimp only
            rw [hy]
            dsimp only
            rw [bind_as, bind_as]
            congr 1
            funext zs
            unfold wll
            rw [okb, okb, List.map_set]
            rfl
          · rename_i hno
            have : extendM (ys.map OV.fz) ds = .bad := by
              unfold extendM
              split
              · rename_i es
                exact absurd rfl (hno _)
              · rfl
            show (extendM (ys.map OV.fz) ds).bind _ = _
            rw [this]; rfl
  | _ => exact (bad_all _ _ (nmtP_bad fun d => by unfold nextV; rfl)).symm
theorem datas_vals (ds : List D) : datas (valsL ds) = some ds := by
  have := datas_app ds []
  rw [List.append_nil] at this
  rw [this, datas_nil]
  simp
end Pf

/-! VI: stumps, their nets, and what comes together from the children. -/
namespace Lw
open PySem Pf
/-! nets -/
def netI (w : Nat → Int) (q : Nat → Bool) : Nat → Int
  | 0 => 0
  | n + 1 => netI w q n + (if q n = true then w n else 0)
theorem netI_lot (w : Nat → Int) (q : Nat → Bool) : ∀ n, ((lot n q).map w).sum = netI w q n
  | 0 => rfl
  | n + 1 => by
    rw [lot_succ, List.map_append, List.sum_append, netI_lot w q n, netI]
    congr 1
    by_cases h : q n = true
    · rw [if_pos h, if_pos h]; simp
    · rw [if_neg h, if_neg h]; rfl
theorem netI_congr {w : Nat → Int} {q r : Nat → Bool} : ∀ n, (∀ x, x < n → q x = r x) → netI w q n = netI w r n
  | 0, _ => rfl
  | n + 1, h => by rw [netI, netI, netI_congr n (fun x hx => h x (by omega)), h n (by omega)]
theorem netI_false (w : Nat → Int) : ∀ n, netI w (fun _ => false) n = 0
  | 0 => rfl
  | n + 1 => by rw [netI, netI_false w n]; rfl
theorem sum_add {α : Type} (f g : α → Int) : ∀ l : List α, (l.map fun u => f u + g u).sum = (l.map f).sum + (l.map g).sum
  | [] => rfl
  | u :: l => by simp only [List.map_cons, List.sum_cons, sum_add f g l]; omega
theorem sum_zero {α : Type} {f : α → Int} : ∀ {l : List α}, (∀ u ∈ l, f u = 0) → (l.map f).sum = 0
  | [], _ => rfl
  | u :: l, h => by
    simp only [List.map_cons, List.sum_cons, h u List.mem_cons_self, sum_zero (l := l) fun x hx => h x (List.mem_cons_of_mem _ hx)]
    rfl
theorem sum_one {f : Nat → Int} {c : Int} {u : Nat} : ∀ {l : List Nat}, l.Nodup → u ∈ l → f u = c → (∀ x ∈ l, x ≠ u → f x = 0) → (l.map f).sum = c
  | [], _, h, _, _ => by cases h
  | y :: l, d, h, e, z => by
    simp only [List.map_cons, List.sum_cons]
    by_cases hy : y = u
    · subst hy
      rw [e, sum_zero fun x hx => z x (List.mem_cons_of_mem _ hx) fun hxu => ?_]
      · omega
      · subst hxu; exact (List.nodup_cons.mp d).1 hx
    · rw [z y List.mem_cons_self hy, sum_one (List.nodup_cons.mp d).2 ((List.mem_cons.mp h).resolve_left fun x => hy x.symm) e fun x hx => z x (List.mem_cons_of_mem _ hx)]
      omega
theorem sum_congr {α : Type} {f g : α → Int} : ∀ {l : List α}, (∀ u ∈ l, f u = g u) → (l.map f).sum = (l.map g).sum := fun {l} h => by
  rw [List.map_congr_left h]
/-! children -/
def kids (rs : List Room) (v : Nat) : List Nat := lot rs.length fun u => decide (parOf rs u = some v)
theorem mem_kids {rs : List Room} {u v : Nat} : u ∈ kids rs v ↔ u < rs.length ∧ parOf rs u = some v := by
  unfold kids; rw [lot_mem]; simp
theorem kids_nodup {rs : List Room} {v : Nat} : (kids rs v).Nodup := lot_nodup
theorem kid_lt {rs : List Room} (g : Rms rs) {u v : Nat} (h : u ∈ kids rs v) : v < u ∧ u < rs.length := by
  rw [mem_kids] at h
  exact ⟨(g.par_lt h.2).1, h.1⟩
/-- what hangs on v hangs on one of its children -/
theorem ups_kid {rs : List Room} (g : Rms rs) {v : Nat} : ∀ (n x : Nat), x ≤ n → x < rs.length → v ∈ ups rs x → x ≠ v → ∃ u ∈ kids rs v, u ∈ ups rs x
  | n, x, hn, hx, h, hne => by
    cases hp : parOf rs x with
    | none =>
      rw [ups_none g hp] at h
      exact absurd (by simpa using h) (Ne.symm hne)
    | some p =>
      rw [ups_some g hp] at h ⊢
      rcases List.mem_cons.mp h with z | z
      · exact absurd z.symm hne
      · have := g.par_lt hp
        by_cases hpv : p = v
        · subst hpv
          exact ⟨x, mem_kids.mpr ⟨hx, hp⟩, List.mem_cons_self⟩
        · cases n with
          | zero => omega
          | succ n =>
            obtain ⟨u, hu, hux⟩ := ups_kid g n p (by omega) (by omega) z hpv
            exact ⟨u, hu, List.mem_cons_of_mem _ hux⟩
/-- in a way, below u come just those of u's own way -/
theorem ups_of_ups {rs : List Room} (g : Rms rs) : ∀ (n x : Nat), x ≤ n → ∀ u ∈ ups rs x, ∀ y ∈ ups rs u, y ∈ ups rs x
  | n, x, hn, u, hu, y, hy => by
    cases hp : parOf rs x with
    | none =>
      rw [ups_none g hp] at hu
      have : u = x := by simpa using hu
      subst this
      exact hy
    | some p =>
      rw [ups_some g hp] at hu
      rcases List.mem_cons.mp hu with z | z
      · subst z; exact hy
      · have := g.par_lt hp
        cases n with
        | zero => omega
        | succ n =>
          rw [ups_some g hp]
          exact List.mem_cons_of_mem _ (ups_of_ups g n p (by omega) u z y hy)
theorem ups_total {rs : List Room} (g : Rms rs) : ∀ (n x : Nat), x ≤ n → ∀ a ∈ ups rs x, ∀ b ∈ ups rs x, a ≤ b → a ∈ ups rs b
  | n, x, hn, a, ha, b, hb, hab => by
    cases hp : parOf rs x with
    | none =>
      rw [ups_none g hp] at ha hb
      have h1 : a = x := by simpa using ha
      have h2 : b = x := by simpa using hb
      subst h1 h2
      exact ups_self g _
    | some p =>
      rw [ups_some g hp] at hb
      rcases List.mem_cons.mp hb with z | z
      · subst z; exact ha
      · rw [ups_some g hp] at ha
        have := g.par_lt hp
        rcases List.mem_cons.mp ha with y | y
        · have := ups_le g p p (Nat.le_refl _) b z
          omega
        · cases n with
          | zero => omega
          | succ n => exact ups_total g n p (by omega) a y b z hab
theorem kid_one {rs : List Room} (g : Rms rs) {v x u u' : Nat} (h : u ∈ kids rs v) (h' : u' ∈ kids rs v) (hu : u ∈ ups rs x) (hu' : u' ∈ ups rs x) : u = u' := by
  have key : ∀ a b : Nat, a ∈ kids rs v → b ∈ kids rs v → a ∈ ups rs x → b ∈ ups rs x → a ≤ b → a = b := fun a b ha hb hax hbx hab => by
    have h1 := ups_total g x x (Nat.le_refl _) a hax b hbx hab
    rw [ups_some g (mem_kids.mp hb).2] at h1
    rcases List.mem_cons.mp h1 with z | z
    · exact z
    · have := ups_le g v v (Nat.le_refl _) a z
      have := (kid_lt g ha).1
      omega
  rcases Nat.le_total u u' with z | z
  · exact key u u' h h' hu hu' z
  · exact (key u' u h' h hu' hu z).symm
theorem kid_up {rs : List Room} (g : Rms rs) {v x u : Nat} (h : u ∈ kids rs v) (hu : u ∈ ups rs x) : v ∈ ups rs x := by
  refine ups_of_ups g x x (Nat.le_refl _) u hu v ?_
  rw [ups_some g (mem_kids.mp h).2]
  exact List.mem_cons_of_mem _ (ups_self g v)
def br (rs : List Room) (u : Nat) (q : Nat → Bool) : Nat → Bool := fun x => q x && decide (u ∈ ups rs x)
/-- a net comes together from the children's -/
theorem net_kids {rs : List Room} (g : Rms rs) {w : Nat → Int} {q : Nat → Bool} {v : Nat} (hq : q v = true) (hs : ∀ x, q x = true → x < rs.length → v ∈ ups rs x) :
    ∀ m, m ≤ rs.length → netI w q m = (if v < m then w v else 0) + ((kids rs v).map fun u => netI w (br rs u q) m).sum
  | 0, _ => by
    rw [sum_zero (f := fun u => netI w (br rs u q) 0) fun _ _ => rfl, if_neg (by omega)]
    rfl
  | m + 1, hm => by
    have ih := net_kids g (w := w) hq hs m (by omega)
    have e : ((kids rs v).map fun u => netI w (br rs u q) (m + 1)).sum = ((kids rs v).map fun u => netI w (br rs u q) m).sum + ((kids rs v).map fun u => if br rs u q m = true then w m else 0).sum := sum_add _ _ _
    rw [e, netI, ih]
    have key : (if q m = true then w m else 0) + (if v < m then w v else 0) = (if v < m + 1 then w v else 0) + ((kids rs v).map fun u => if br rs u q m = true then w m else 0).sum := by
      by_cases hqm : q m = true
      · rw [if_pos hqm]
        by_cases hmv : m = v
        · subst hmv
          rw [if_neg (by omega), if_pos (by omega), sum_zero fun u hu => ?_]
          refine if_neg fun z => ?_
          unfold br at z
          simp only [Bool.and_eq_true, decide_eq_true_eq] at z
          have := ups_le g m m (Nat.le_refl _) u z.2
          have := (kid_lt g hu).1
          omega
        · have hvm := hs m hqm (by omega)
          have hle := ups_le g m m (Nat.le_refl _) v hvm
          obtain ⟨u, hu, hum⟩ := ups_kid g m m (Nat.le_refl _) (by omega) hvm hmv
          rw [if_pos (by omega), if_pos (by omega), sum_one (c := w m) (u := u) kids_nodup hu ?_ ?_]
          · omega
          · refine if_pos ?_
            unfold br
            simp [hqm, hum]
          · intro x hx hxu
            refine if_neg fun z => hxu ?_
            unfold br at z
            simp only [Bool.and_eq_true, decide_eq_true_eq] at z
            exact kid_one g hx hu z.2 hum
      · have hmv : m ≠ v := fun z => hqm (by rw [z]; exact hq)
        rw [if_neg hqm, sum_zero fun u hu => ?_]
        · by_cases hvm : v < m
          · rw [if_pos hvm, if_pos (by omega)]; omega
          · rw [if_neg hvm, if_neg (by omega)]
        · refine if_neg fun z => hqm ?_
          unfold br at z
          simp only [Bool.and_eq_true] at z
          exact z.1
    omega
/-! stumps -/
/-- of what kind: what has to be taken with its parent, what may be gone into, what may be there at all -/
structure Kind where
  must : Nat → Bool
  nb : Nat → Bool
  ok : Nat → Bool
structure Stump (rs : List Room) (k : Kind) (v : Nat) (q : Nat → Bool) : Prop where
  top : q v = true
  sub : ∀ x, q x = true → x < rs.length ∧ v ∈ ups rs x
  up : ∀ x p, q x = true → x ≠ v → parOf rs x = some p → q p = true
  down : ∀ x p, x < rs.length → parOf rs x = some p → q p = true → k.must x = true → q x = true
  nob : ∀ x, q x = true → x ≠ v → k.nb x = true
  okk : ∀ x, q x = true → k.ok x = true
theorem Stump.ups {rs : List Room} (g : Rms rs) {k : Kind} {v : Nat} {q : Nat → Bool} (s : Stump rs k v q) : ∀ (n x : Nat), x ≤ n → q x = true → ∀ u ∈ ups rs x, v ∈ Lw.ups rs u → q u = true
  | n, x, hn, hx, u, hu, hv => by
    cases hp : parOf rs x with
    | none =>
      rw [ups_none g hp] at hu
      have : u = x := by simpa using hu
      subst this
      exact hx
    | some p =>
      rw [ups_some g hp] at hu
      rcases List.mem_cons.mp hu with z | z
      · subst z; exact hx
      · have hlt := g.par_lt hp
        have hne : x ≠ v := fun e => by
          subst e
          have h1 := ups_le g u u (Nat.le_refl _) x hv
          have h2 := ups_le g p p (Nat.le_refl _) u z
          omega
        cases n with
        | zero => omega
        | succ n => exact Stump.ups g s n p (by omega) (s.up x p hx hne hp) u z hv
def lacks (rs : List Room) (v : Nat) (q : Nat → Bool) : Prop := ∃ y, y < rs.length ∧ v ∈ ups rs y ∧ q y = false
def VS (rs : List Room) (k : Kind) (w : Nat → Int) (v : Nat) (x : Int) : Prop := ∃ q, Stump rs k v q ∧ netI w q rs.length = x
def VL (rs : List Room) (k : Kind) (w : Nat → Int) (v : Nat) (x : Int) : Prop := ∃ q, Stump rs k v q ∧ lacks rs v q ∧ netI w q rs.length = x
/-- a child's part in a stump -/
def CS (rs : List Room) (k : Kind) (w : Nat → Int) (u : Nat) (x : Int) : Prop := (k.nb u = true ∧ VS rs k w u x) ∨ (k.must u = false ∧ x = 0)
def CL (rs : List Room) (k : Kind) (w : Nat → Int) (u : Nat) (x : Int) : Prop := (k.nb u = true ∧ VL rs k w u x) ∨ (k.must u = false ∧ x = 0)
theorem Stump.kid {rs : List Room} (g : Rms rs) {k : Kind} {v u : Nat} {q : Nat → Bool} (s : Stump rs k v q) (hu : u ∈ kids rs v) (hq : q u = true) : Stump rs k u (br rs u q) := by
  have e : ∀ x, br rs u q x = true ↔ q x = true ∧ u ∈ Lw.ups rs x := fun x => by unfold br; simp
  refine ⟨(e u).mpr ⟨hq, ups_self g u⟩, fun x hx => ?_, fun x p hx hne hp => ?_, fun x p hl hp hx hm => ?_, fun x hx hne => ?_, fun x hx => s.okk x ((e x).mp hx).1⟩
  · rw [e] at hx
    exact ⟨(s.sub x hx.1).1, hx.2⟩
  · rw [e] at hx ⊢
    have h1 := hx.2
    rw [ups_some g hp] at h1
    have h2 : u ∈ Lw.ups rs p := (List.mem_cons.mp h1).resolve_left fun z => hne z.symm
    have hxv : x ≠ v := fun z => by
      subst z
      have := ups_le g x x (Nat.le_refl _) u hx.2
      have := (kid_lt g hu).1
      omega
    exact ⟨s.up x p hx.1 hxv hp, h2⟩
  · rw [e] at hx ⊢
    refine ⟨s.down x p hl hp hx.1 hm, ?_⟩
    rw [ups_some g hp]
    exact List.mem_cons_of_mem _ hx.2
  · rw [e] at hx
    refine s.nob x hx.1 fun z => ?_
    subst z
    have := ups_le g x x (Nat.le_refl _) u hx.2
    have := (kid_lt g hu).1
    omega
/-- apart -/
theorem Stump.apart {rs : List Room} (g : Rms rs) {k : Kind} {v : Nat} {q : Nat → Bool} {w : Nat → Int} (s : Stump rs k v q) {u : Nat} (hu : u ∈ kids rs v) : CS rs k w u (netI w (br rs u q) rs.length) := by
  by_cases hq : q u = true
  · refine .inl ⟨s.nob u hq fun z => ?_, _, s.kid g hu hq, rfl⟩
    have := (kid_lt g hu).1
    omega
  · have hm : k.must u = false := by
      cases hm : k.must u with
      | false => rfl
      | true => exact absurd (s.down u v (mem_kids.mp hu).1 (mem_kids.mp hu).2 s.top hm) hq
    refine .inr ⟨hm, ?_⟩
    rw [netI_congr (r := fun _ => false) _ fun x hx => ?_, netI_false]
    unfold br
    cases hx : q x with
    | false => rfl
    | true =>
      rw [Bool.true_and]
      refine decide_eq_false fun z => hq ?_
      exact s.ups g x x (Nat.le_refl _) hx u z (by rw [ups_some g (mem_kids.mp hu).2]; exact List.mem_cons_of_mem _ (ups_self g v))
theorem Stump.apartL {rs : List Room} (g : Rms rs) {k : Kind} {v : Nat} {q : Nat → Bool} {w : Nat → Int} (s : Stump rs k v q) (l : lacks rs v q) : ∃ u ∈ kids rs v, CL rs k w u (netI w (br rs u q) rs.length) := by
  obtain ⟨y, hy, hv, hq⟩ := l
  obtain ⟨u, hu, huy⟩ := ups_kid g y y (Nat.le_refl _) hy hv fun z => by rw [z, s.top] at hq; cases hq
  refine ⟨u, hu, ?_⟩
  by_cases hqu : q u = true
  · refine .inl ⟨s.nob u hqu fun z => ?_, _, s.kid g hu hqu, ⟨y, hy, huy, by unfold br; rw [hq]; rfl⟩, rfl⟩
    have := (kid_lt g hu).1
    omega
  · rcases s.apart g (w := w) hu with ⟨h1, q2, h2, h3⟩ | h
    · -- q u is false, so the child's part is nothing
      have hm : k.must u = false := by
        cases hm : k.must u with
        | false => rfl
        | true => exact absurd (s.down u v (mem_kids.mp hu).1 (mem_kids.mp hu).2 s.top hm) hqu
      refine .inr ⟨hm, ?_⟩
      rw [netI_congr (r := fun _ => false) _ fun x hx => ?_, netI_false]
      unfold br
      cases hx : q x with
      | false => rfl
      | true =>
        rw [Bool.true_and]
        refine decide_eq_false fun z => hqu ?_
        exact s.ups g x x (Nat.le_refl _) hx u z (by rw [ups_some g (mem_kids.mp hu).2]; exact List.mem_cons_of_mem _ (ups_self g v))
    · exact .inr h
/-- together -/
structure Pc (rs : List Room) (k : Kind) (u : Nat) (r : Nat → Bool) : Prop where
  cases : (k.nb u = true ∧ Stump rs k u r) ∨ (k.must u = false ∧ r = fun _ => false)
def tog (rs : List Room) (v : Nat) (Q : Nat → Nat → Bool) : Nat → Bool := fun x => decide (x = v) || (kids rs v).any fun u => Q u x
theorem tog_br {rs : List Room} (g : Rms rs) {k : Kind} {v : Nat} {Q : Nat → Nat → Bool} (h : ∀ u ∈ kids rs v, Pc rs k u (Q u)) {u : Nat} (hu : u ∈ kids rs v) (x : Nat) : br rs u (tog rs v Q) x = Q u x := by
  have sub : ∀ u' ∈ kids rs v, ∀ x, Q u' x = true → u' ∈ ups rs x := fun u' hu' x hx => by
    rcases (h u' hu').cases with ⟨_, s⟩ | ⟨_, e⟩
    · exact (s.sub x hx).2
    · rw [e] at hx; cases hx
  unfold br tog
  cases hq : Q u x with
  | true =>
    rw [Bool.and_eq_true, Bool.or_eq_true]
    exact ⟨.inr (List.any_eq_true.mpr ⟨u, hu, hq⟩), decide_eq_true (sub u hu x hq)⟩
  | false =>
    cases hz : ((decide (x = v) || (kids rs v).any fun u => Q u x) && decide (u ∈ ups rs x)) with
    | false => rfl
    | true =>
      rw [Bool.and_eq_true, Bool.or_eq_true] at hz
      have hux := of_decide_eq_true hz.2
      rcases hz.1 with z | z
      · have z := of_decide_eq_true z
        subst z
        have := ups_le g x x (Nat.le_refl _) u hux
        have := (kid_lt g hu).1
        omega
      · obtain ⟨u', hu', hx⟩ := List.any_eq_true.mp z
        have := kid_one g hu' hu (sub u' hu' x hx) hux
        subst this
        rw [hq] at hx; cases hx
theorem tog_stump {rs : List Room} (g : Rms rs) {k : Kind} {v : Nat} {Q : Nat → Nat → Bool} (hv : v < rs.length) (hk : k.ok v = true) (h : ∀ u ∈ kids rs v, Pc rs k u (Q u)) : Stump rs k v (tog rs v Q) := by
  have e : ∀ x, tog rs v Q x = true ↔ x = v ∨ ∃ u ∈ kids rs v, Q u x = true := fun x => by
    unfold tog; rw [Bool.or_eq_true, List.any_eq_true, decide_eq_true_eq]
  have st : ∀ u ∈ kids rs v, ∀ x, Q u x = true → k.nb u = true ∧ Stump rs k u (Q u) := fun u hu x hx => by
    rcases (h u hu).cases with z | ⟨_, z⟩
    · exact z
    · rw [z] at hx; cases hx
  refine ⟨(e v).mpr (.inl rfl), fun x hx => ?_, fun x p hx hne hp => ?_, fun x p hl hp hx hm => ?_, fun x hx hne => ?_, fun x hx => ?_⟩
  · rcases (e x).mp hx with z | ⟨u, hu, z⟩
    · subst z; exact ⟨hv, ups_self g _⟩
    · obtain ⟨_, s⟩ := st u hu x z
      exact ⟨(s.sub x z).1, kid_up g hu (s.sub x z).2⟩
  · rcases (e x).mp hx with z | ⟨u, hu, z⟩
    · exact absurd z hne
    · obtain ⟨_, s⟩ := st u hu x z
      by_cases hxu : x = u
      · subst hxu
        rw [(mem_kids.mp hu).2] at hp
        cases hp
        exact (e v).mpr (.inl rfl)
      · exact (e p).mpr (.inr ⟨u, hu, s.up x p z hxu hp⟩)
  · rcases (e p).mp hx with z | ⟨u, hu, z⟩
    · subst z
      have hxk : x ∈ kids rs p := mem_kids.mpr ⟨hl, hp⟩
      rcases (h x hxk).cases with ⟨_, s⟩ | ⟨z, _⟩
      · exact (e x).mpr (.inr ⟨x, hxk, s.top⟩)
      · rw [hm] at z; cases z
    · obtain ⟨_, s⟩ := st u hu p z
      exact (e x).mpr (.inr ⟨u, hu, s.down x p hl hp z hm⟩)
  · rcases (e x).mp hx with z | ⟨u, hu, z⟩
    · exact absurd z hne
    · obtain ⟨hb, s⟩ := st u hu x z
      by_cases hxu : x = u
      · subst hxu; exact hb
      · exact s.nob x z hxu
  · rcases (e x).mp hx with z | ⟨u, hu, z⟩
    · subst z; exact hk
    · exact (st u hu x z).2.okk x z
theorem tog_net {rs : List Room} (g : Rms rs) {k : Kind} {v : Nat} {Q : Nat → Nat → Bool} {w : Nat → Int} (hv : v < rs.length) (hk : k.ok v = true) (h : ∀ u ∈ kids rs v, Pc rs k u (Q u)) : netI w (tog rs v Q) rs.length = w v + ((kids rs v).map fun u => netI w (Q u) rs.length).sum := by
  have s := tog_stump g hv hk h
  rw [net_kids g s.top (fun x hx _ => (s.sub x hx).2) _ (Nat.le_refl _), if_pos hv]
  congr 1
  exact sum_congr fun u hu => netI_congr _ fun x _ => tog_br g h hu x
theorem vs_kids {rs : List Room} (g : Rms rs) {k : Kind} {v : Nat} {w : Nat → Int} (hv : v < rs.length) (hk : k.ok v = true) {x : Int} :
    VS rs k w v x ↔ ∃ f : Nat → Int, (∀ u ∈ kids rs v, CS rs k w u (f u)) ∧ x = w v + ((kids rs v).map f).sum := by
  constructor
  · rintro ⟨q, s, e⟩
    refine ⟨fun u => netI w (br rs u q) rs.length, fun u hu => s.apart g hu, ?_⟩
    rw [← e, net_kids g s.top (fun x hx _ => (s.sub x hx).2) _ (Nat.le_refl _), if_pos hv]
  · rintro ⟨f, h, e⟩
    have hc : ∀ u, ∃ r : Nat → Bool, u ∈ kids rs v → Pc rs k u r ∧ netI w r rs.length = f u := fun u => by
      by_cases hu : u ∈ kids rs v
      · rcases h u hu with ⟨hb, r, s, en⟩ | ⟨hm, e0⟩
        · exact ⟨r, fun _ => ⟨⟨.inl ⟨hb, s⟩⟩, en⟩⟩
        · exact ⟨fun _ => false, fun _ => ⟨⟨.inr ⟨hm, rfl⟩⟩, by rw [netI_false, e0]⟩⟩
      · exact ⟨fun _ => false, fun z => absurd z hu⟩
    obtain ⟨Q, hQ⟩ := Classical.axiomOfChoice hc
    refine ⟨tog rs v Q, tog_stump g hv hk fun u hu => (hQ u hu).1, ?_⟩
    rw [tog_net g hv hk fun u hu => (hQ u hu).1, e, sum_congr fun u hu => (hQ u hu).2]
theorem vl_kids {rs : List Room} (g : Rms rs) {k : Kind} {v : Nat} {w : Nat → Int} (hv : v < rs.length) (hk : k.ok v = true) {x : Int} :
    VL rs k w v x ↔ ∃ f : Nat → Int, (∃ a ∈ kids rs v, CL rs k w a (f a) ∧ ∀ u ∈ kids rs v, u ≠ a → CS rs k w u (f u)) ∧ x = w v + ((kids rs v).map f).sum := by
  constructor
  · rintro ⟨q, s, l, e⟩
    obtain ⟨a, ha, hl⟩ := s.apartL g (w := w) l
    refine ⟨fun u => netI w (br rs u q) rs.length, ⟨a, ha, hl, fun u hu _ => s.apart g hu⟩, ?_⟩
    rw [← e, net_kids g s.top (fun x hx _ => (s.sub x hx).2) _ (Nat.le_refl _), if_pos hv]
  · rintro ⟨f, ⟨a, ha, hl, h⟩, e⟩
    have hc : ∀ u, ∃ r : Nat → Bool, u ∈ kids rs v → (Pc rs k u r ∧ netI w r rs.length = f u) ∧ (u = a → ∃ y, y < rs.length ∧ v ∈ ups rs y ∧ a ∈ ups rs y ∧ r y = false) := fun u => by
      have up : ∀ y, a ∈ ups rs y → v ∈ ups rs y := fun y hy => kid_up g ha hy
      by_cases hu : u ∈ kids rs v
      · by_cases hua : u = a
        · subst hua
          rcases hl with ⟨hb, r, s, ⟨y, hy, hyu, hyr⟩, en⟩ | ⟨hm, e0⟩
          · exact ⟨r, fun _ => ⟨⟨⟨.inl ⟨hb, s⟩⟩, en⟩, fun _ => ⟨y, hy, up y hyu, hyu, hyr⟩⟩⟩
          · exact ⟨fun _ => false, fun _ => ⟨⟨⟨.inr ⟨hm, rfl⟩⟩, by rw [netI_false, e0]⟩, fun _ => ⟨u, (kid_lt g hu).2, up u (ups_self g u), ups_self g u, rfl⟩⟩⟩
        · rcases h u hu hua with ⟨hb, r, s, en⟩ | ⟨hm, e0⟩
          · exact ⟨r, fun _ => ⟨⟨⟨.inl ⟨hb, s⟩⟩, en⟩, fun z => absurd z hua⟩⟩
          · exact ⟨fun _ => false, fun _ => ⟨⟨⟨.inr ⟨hm, rfl⟩⟩, by rw [netI_false, e0]⟩, fun z => absurd z hua⟩⟩
      · exact ⟨fun _ => false, fun z => absurd z hu⟩
    obtain ⟨Q, hQ⟩ := Classical.axiomOfChoice hc
    have hP : ∀ u ∈ kids rs v, Pc rs k u (Q u) := fun u hu => (hQ u hu).1.1
    obtain ⟨y, hy, hvy, hay, hr⟩ := (hQ a ha).2 rfl
    refine ⟨tog rs v Q, tog_stump g hv hk hP, ⟨y, hy, hvy, ?_⟩, ?_⟩
    · have := tog_br g hP ha y
      rw [hr] at this
      unfold br at this
      rw [decide_eq_true hay, Bool.and_true] at this
      exact this
    · rw [tog_net g hv hk hP, e, sum_congr fun u hu => (hQ u hu).1.2]
end Lw

/-! VJ: least numbers; the rows of the net table. -/
namespace Lw
open PySem Pf
def vb_children_of_2 (d : D) (s : List (List D)) : Res (List (List D)) :=
  (un2 d).bind fun t_6 => (un3 t_6.2).bind fun t_7 => (isnotV t_7.1 D.non).bind fun b_8 => ((if b_8 = true then (nappV s t_7.1 t_6.1).bind fun found_9 => 
  Res.ok found_9 else Res.ok s : Res (List (List D)))).bind fun found_10 => 
  Res.ok found_10
def v_children_of (dungeon : D) : Res (D) :=
  (idxV dungeon (D.int 0)).bind fun x_1 => (itemsV x_1).bind fun l_2 => (nestV l_2).bind fun l_3 => 
  (idxV dungeon (D.int 0)).bind fun x_5 => (datV (enumL 0) x_5).bind fun l_4 => (foldV (vb_children_of_2) l_4 l_3).bind fun found_11 => 
  Res.ok (.lst (found_11.map D.lst))
def v_added (values : D) : Res (D) :=
  (memV false D.non values).bind fun b_1 => (if b_1 = true then Res.ok D.non else (sumV values).bind fun x_2 => Res.ok x_2).bind fun x_3 => Res.ok x_3
def vc_least_of_1 (d : D) : Res (Option D) :=
  (isnotV d D.non).bind fun b_2 => if b_2 = true then Res.ok (some d) else Res.ok none
def v_least_of (values : D) : Res (D) :=
  (itemsV values).bind fun l_1 => (mapV (vc_least_of_1) l_1).bind fun l_3 => 
  (neV (D.lst l_3) (D.lst [])).bind fun b_4 => (if b_4 = true then (minV (D.lst l_3)).bind fun x_5 => Res.ok x_5 else Res.ok D.non).bind fun x_6 => Res.ok x_6
def vc_joined_rows_1 (d : D) : Res (Option D) :=
  (un2 d).bind fun t_2 => Res.ok (some t_2.1)
def vb_joined_rows_2 (own : D) (alls : D) (d : D) (s : List D) : Res (List D) :=
  (un2 d).bind fun t_6 => (un2 t_6.2).bind fun t_7 => (intD t_6.1).bind fun i_8 => (sliV alls none (some i_8)).bind fun x_9 => (catV ([own, t_7.2]) x_9).bind fun x_10 => (addV t_6.1 (D.int 1)).bind fun x_11 => (intD x_11).bind fun i_12 => (sliV alls (some i_12) none).bind fun x_13 => (catV x_10 x_13).bind fun x_14 => (v_added (D.lst x_14)).bind fun x_15 => (appV s x_15).bind fun found_16 => 
  Res.ok found_16
def v_joined_rows (own : D) (choices : D) : Res (D) :=
  (itemsV choices).bind fun l_1 => (mapV (vc_joined_rows_1) l_1).bind fun l_3 => 
  (Res.ok []).bind fun found_4 => 
  (datV (enumL 0) choices).bind fun l_5 => (foldV (vb_joined_rows_2 own (D.lst l_3)) l_5 found_4).bind fun found_17 => 
  (seqV (D.lst l_3)).bind fun l_18 => (joinV ([own] ++ l_18)).bind fun l_19 => (v_added (D.lst l_19)).bind fun x_20 => (v_least_of (D.lst found_17)).bind fun x_21 => Res.ok (D.tup [x_20, x_21])
def v_choice_plain (way : D) (row : D) : Res (D) :=
  (eqV way (D.str "open")).bind fun b_1 => if b_1 = true then (idxV row (D.int 0)).bind fun x_2 => (idxV row (D.int 1)).bind fun x_3 => Res.ok (D.tup [x_2, x_3])
  else (eqV way (D.str "bar")).bind fun b_4 => if b_4 = true then Res.ok (D.tup [(D.int 0), (D.int 0)])
  else (idxV row (D.int 0)).bind fun x_5 => (v_least_of (D.lst [(D.int 0), x_5])).bind fun x_6 => (idxV row (D.int 1)).bind fun x_7 => (v_least_of (D.lst [(D.int 0), x_7])).bind fun x_8 => Res.ok (D.tup [x_6, x_8])
def v_choice_opened (way : D) (row : D) (is_due : D) : Res (D) :=
  (neV way (D.str "lock")).bind fun b_1 => (if b_1 = true then Res.ok true else (truV is_due).bind fun b_2 => Res.ok b_2).bind fun x_3 => if x_3 = true then (idxV row (D.int 2)).bind fun x_4 => (idxV row (D.int 3)).bind fun x_5 => Res.ok (D.tup [x_4, x_5])
  else (idxV row (D.int 2)).bind fun x_6 => (v_least_of (D.lst [(D.int 0), x_6])).bind fun x_7 => (idxV row (D.int 3)).bind fun x_8 => (v_least_of (D.lst [(D.int 0), x_8])).bind fun x_9 => Res.ok (D.tup [x_7, x_9])
def vc_net_table_2 (rooms : D) (rows : List D) (d : D) : Res (Option D) :=
  (idxV rooms d).bind fun x_22 => (idxV x_22 (D.int 1)).bind fun x_23 => (idxV (D.lst rows) d).bind fun x_24 => (v_choice_plain x_23 x_24).bind fun x_25 => Res.ok (some x_25)
def vc_net_table_3 (rooms : D) (due : D) (rows : List D) (d : D) : Res (Option D) :=
  (idxV rooms d).bind fun x_30 => (idxV x_30 (D.int 1)).bind fun x_31 => (idxV (D.lst rows) d).bind fun x_32 => (memV false d due).bind fun b_33 => (v_choice_opened x_31 x_32 (D.bl b_33)).bind fun x_34 => Res.ok (some x_34)
def vb_net_table_1 (rooms : D) (big : D) (small : D) (children : D) (due : D) (d : D) (s : List D) : Res (List D) :=
  (idxV small d).bind fun x_14 => (idxV rooms d).bind fun x_15 => (idxV x_15 (D.int 1)).bind fun x_16 => (eqV x_16 (D.str "lock")).bind fun b_17 => (intV (D.bl b_17)).bind fun x_18 => (subV x_14 x_18).bind fun x_19 => 
  (idxV children d).bind fun x_20 => (itemsV x_20).bind fun l_21 => (mapV (vc_net_table_2 rooms s) l_21).bind fun l_26 => (v_joined_rows x_19 (D.lst l_26)).bind fun x_27 => 
  (idxV children d).bind fun x_28 => (itemsV x_28).bind fun l_29 => (mapV (vc_net_table_3 rooms due s) l_29).bind fun l_35 => (v_joined_rows x_19 (D.lst l_35)).bind fun x_36 => 
  (eqV d big).bind fun b_37 => (if b_37 = true then Res.ok (D.tup [D.non, D.non]) else Res.ok x_27).bind fun x_38 => (isV big D.non).bind fun b_39 => (if b_39 = true then Res.ok (D.tup [D.non, D.non]) else Res.ok x_36).bind fun x_40 => (addV x_38 x_40).bind fun x_41 => (stV s d x_41).bind fun rows_42 => 
  Res.ok rows_42
def v_net_table (dungeon : D) (laid : D) : Res (D) :=
  (idxV dungeon (D.int 0)).bind fun x_1 => (un2 (D.tup [x_1, laid])).bind fun t_2 => (un2 t_2.2).bind fun t_3 => 
  (v_children_of dungeon).bind fun x_4 => (v_way_to dungeon t_3.1).bind fun x_5 => 
  (lenV t_2.1).bind fun x_6 => (repV ([(D.tup [D.non, D.non, D.non, D.non])]) x_6).bind fun x_7 => (Res.ok x_7).bind fun rows_8 => 
  (lenV t_2.1).bind fun x_10 => (subV x_10 (D.int 1)).bind fun x_11 => (negV (D.int 1)).bind fun x_12 => (negV (D.int 1)).bind fun x_13 => (rng3V x_11 x_12 x_13).bind fun l_9 => (foldV (vb_net_table_1 t_2.1 t_3.1 t_3.2 x_4 x_5) l_9 rows_8).bind fun rows_43 => 
  (tupV (D.lst rows_43)).bind fun x_44 => Res.ok x_44
/-! least of what is so -/
def Least (P : Int → Prop) : Option Int → Prop
  | none => ∀ x, ¬ P x
  | some m => P m ∧ ∀ x, P x → m ≤ x
theorem Least.congr {P Q : Int → Prop} {o : Option Int} (h : Least P o) (e : ∀ x, Q x ↔ P x) : Least Q o := by
  cases o with
  | none => exact fun x hx => h x ((e x).mp hx)
  | some m => exact ⟨(e m).mpr h.1, fun x hx => h.2 x ((e x).mp hx)⟩
theorem Least.one {P : Int → Prop} {o o' : Option Int} (h : Least P o) (h' : Least P o') : o = o' := by
  cases o with
  | none =>
    cases o' with
    | none => rfl
    | some m => exact absurd h'.1 (h m)
  | some m =>
    cases o' with
    | none => exact absurd h.1 (h' m)
    | some k => have h1 := h.2 k h'.1; have h2 := h'.2 m h.1; congr 1; omega
def plusO : Option Int → Option Int → Option Int
  | some a, some b => some (a + b)
  | _, _ => none
def lessO : Option Int → Option Int → Option Int
  | none, o => o
  | some a, none => some a
  | some a, some b => some (if b < a then b else a)
def addO : List (Option Int) → Option Int
  | [] => some 0
  | c :: cs => plusO c (addO cs)
def minO : List (Option Int) → Option Int
  | [] => none
  | c :: cs => lessO c (minO cs)
theorem plusO_com (x y z : Option Int) : plusO y (plusO x z) = plusO x (plusO y z) := by
  cases x <;> cases y <;> cases z <;> simp [plusO]
  omega
theorem addO_perm {l m : List (Option Int)} (h : l.Perm m) : addO l = addO m := by
  induction h with
  | nil => rfl
  | cons x _ ih => show plusO x _ = plusO x _; rw [ih]
  | swap x y l => exact plusO_com x y (addO l)
  | trans _ _ h1 h2 => rw [h1, h2]
theorem least_min {α : Type} {P : α → Int → Prop} {c : α → Option Int} : ∀ {l : List α}, (∀ a ∈ l, Least (P a) (c a)) → Least (fun x => ∃ a ∈ l, P a x) (minO (l.map c))
  | [], _ => fun x ⟨a, h, _⟩ => by cases h
  | a :: l, h => by
    have h1 := h a List.mem_cons_self
    have h2 := least_min (P := P) (c := c) (l := l) fun b hb => h b (List.mem_cons_of_mem _ hb)
    show Least _ (lessO (c a) (minO (l.map c)))
    cases hc : c a with
    | none =>
      rw [hc] at h1
      refine h2.congr fun x => ⟨?_, ?_⟩
      · rintro ⟨b, hb, hx⟩
        rcases List.mem_cons.mp hb with rfl | hb
        · exact absurd hx (h1 x)
        · exact ⟨b, hb, hx⟩
      · rintro ⟨b, hb, hx⟩
        exact ⟨b, List.mem_cons_of_mem _ hb, hx⟩
    | some m =>
      rw [hc] at h1
      cases ho : minO (l.map c) with
      | none =>
        rw [ho] at h2
        refine ⟨⟨a, List.mem_cons_self, h1.1⟩, ?_⟩
        rintro x ⟨b, hb, hx⟩
        rcases List.mem_cons.mp hb with rfl | hb
        · exact h1.2 x hx
        · exact absurd ⟨b, hb, hx⟩ (h2 x)
      | some k =>
        rw [ho] at h2
        obtain ⟨⟨b, hb, hk⟩, h3⟩ := h2
        show Least _ (some (if k < m then k else m))
        by_cases hlt : k < m
        · rw [if_pos hlt]
          refine ⟨⟨b, List.mem_cons_of_mem _ hb, hk⟩, ?_⟩
          rintro x ⟨d, hd, hx⟩
          rcases List.mem_cons.mp hd with rfl | hd
          · have := h1.2 x hx; omega
          · exact h3 x ⟨d, hd, hx⟩
        · rw [if_neg hlt]
          refine ⟨⟨a, List.mem_cons_self, h1.1⟩, ?_⟩
          rintro x ⟨d, hd, hx⟩
          rcases List.mem_cons.mp hd with rfl | hd
          · exact h1.2 x hx
          · have := h3 x ⟨d, hd, hx⟩; omega
theorem least_add {P : Nat → Int → Prop} {c : Nat → Option Int} : ∀ {l : List Nat}, l.Nodup → (∀ u ∈ l, Least (P u) (c u)) → Least (fun x => ∃ f : Nat → Int, (∀ u ∈ l, P u (f u)) ∧ x = (l.map f).sum) (addO (l.map c))
  | [], _, _ => by
    show Least _ (some 0)
    exact ⟨⟨fun _ => 0, fun u h => absurd h (by simp), rfl⟩, fun x ⟨f, _, e⟩ => by rw [e]; exact Int.le_refl _⟩
  | u :: l, d, h => by
    have h1 := h u List.mem_cons_self
    have hd := List.nodup_cons.mp d
    have h2 := least_add (P := P) (c := c) hd.2 fun b hb => h b (List.mem_cons_of_mem _ hb)
    show Least _ (plusO (c u) (addO (l.map c)))
    cases hc : c u with
    | none =>
      rw [hc] at h1
      exact fun x ⟨f, hf, _⟩ => h1 _ (hf u List.mem_cons_self)
    | some a =>
      rw [hc] at h1
      cases ho : addO (l.map c) with
      | none =>
        rw [ho] at h2
        exact fun x ⟨f, hf, _⟩ => h2 _ ⟨f, fun y hy => hf y (List.mem_cons_of_mem _ hy), rfl⟩
      | some b =>
        rw [ho] at h2
        obtain ⟨⟨f, hf, e⟩, h3⟩ := h2
        show Least _ (some (a + b))
        refine ⟨⟨fun y => if y = u then a else f y, fun y hy => ?_, ?_⟩, ?_⟩
        · rcases List.mem_cons.mp hy with rfl | hy
          · show P y (if y = y then a else f y)
            rw [if_pos rfl]; exact h1.1
          · have hyu : y ≠ u := fun z => hd.1 (by rw [← z]; exact hy)
            show P y (if y = u then a else f y)
            rw [if_neg hyu]; exact hf y hy
        · rw [List.map_cons, List.sum_cons, if_pos rfl, e]
          congr 1
          exact sum_congr fun y hy => by rw [if_neg fun z => hd.1 (by rw [← z]; exact hy)]
        · rintro x ⟨f', hf', e'⟩
          rw [e', List.map_cons, List.sum_cons]
          have := h1.2 _ (hf' u List.mem_cons_self)
          have := h3 _ ⟨f', fun y hy => hf' y (List.mem_cons_of_mem _ hy), rfl⟩
          omega
theorem least_plus {P : Int → Prop} {o : Option Int} (a : Int) (h : Least P o) : Least (fun x => ∃ y, P y ∧ x = a + y) (addO [some a, o]) := by
  cases o with
  | none => exact fun x ⟨y, hy, _⟩ => h y hy
  | some m =>
    have e : addO [some a, some m] = some (a + m) := by show some (a + (m + 0)) = _; rw [Int.add_zero]
    rw [e]
    refine ⟨⟨m, h.1, rfl⟩, ?_⟩
    rintro x ⟨y, hy, rfl⟩
    have := h.2 y hy
    omega
theorem addO_cons (a : Option Int) (l : List (Option Int)) : addO [a, addO l] = addO (a :: l) := by
  show plusO a (plusO (addO l) (some 0)) = plusO a (addO l)
  cases addO l with
  | none => rfl
  | some b => show plusO a (some (b + 0)) = _; rw [Int.add_zero]
/-! rows -/
/-- least of a child's part, by the least of its stumps -/
def kidO (k : Kind) (u : Nat) (r : Option Int) : Option Int := if k.must u = true then (if k.nb u = true then r else none) else if k.nb u = true then minO [some 0, r] else some 0
theorem kidO_least {k : Kind} {u : Nat} {P : Int → Prop} {r : Option Int} (h : Least P r) : Least (fun x => (k.nb u = true ∧ P x) ∨ (k.must u = false ∧ x = 0)) (kidO k u r) := by
  unfold kidO
  by_cases hm : k.must u = true
  · rw [if_pos hm]
    by_cases hb : k.nb u = true
    · rw [if_pos hb]
      refine h.congr fun x => ⟨fun z => ?_, fun z => Or.inl ⟨hb, z⟩⟩
      rcases z with z | z
      · exact z.2
      · rw [hm] at z; cases z.1
    · rw [if_neg hb]
      show ∀ x, ¬ _
      intro x z
      rcases z with z | z
      · exact hb z.1
      · rw [hm] at z; cases z.1
  · rw [if_neg hm]
    have hm' : k.must u = false := by simpa using hm
    by_cases hb : k.nb u = true
    · rw [if_pos hb]
      show Least _ (lessO (some 0) (lessO r none))
      cases r with
      | none =>
        refine ⟨.inr ⟨hm', rfl⟩, fun x z => ?_⟩
        rcases z with z | z
        · exact absurd z.2 (h x)
        · rw [z.2]; exact Int.le_refl _
      | some m =>
        show Least _ (some (if m < 0 then m else 0))
        by_cases hlt : m < 0
        · rw [if_pos hlt]
          refine ⟨.inl ⟨hb, h.1⟩, fun x z => ?_⟩
          rcases z with z | z
          · exact h.2 x z.2
          · omega
        · rw [if_neg hlt]
          refine ⟨.inr ⟨hm', rfl⟩, fun x z => ?_⟩
          rcases z with z | z
          · have := h.2 x z.2; omega
          · omega
    · rw [if_neg hb]
      refine ⟨.inr ⟨hm', rfl⟩, fun x z => ?_⟩
      rcases z with z | z
      · exact absurd z.1 hb
      · rw [z.2]; exact Int.le_refl _
/-- the two numbers of a room by its children's choices -/
def joinA (own : Int) (cs : List (Option Int × Option Int)) : Option Int := addO (some own :: cs.map (·.1))
def joinB (own : Int) (cs : List (Option Int × Option Int)) : Option Int := minO (cs.zipIdx.map fun p => addO (some own :: p.1.2 :: ((cs.map (·.1)).take p.2 ++ (cs.map (·.1)).drop (p.2 + 1))))
structure RowOf (rs : List Room) (k : Kind) (w : Nat → Int) (v : Nat) (r : Option Int × Option Int) : Prop where
  all : Least (VS rs k w v) r.1
  lack : Least (VL rs k w v) r.2
theorem vs_no {rs : List Room} {k : Kind} {w : Nat → Int} {v : Nat} (h : k.ok v = false) : RowOf rs k w v (none, none) := by
  constructor
  · show ∀ x, ¬ _
    rintro x ⟨q, s, _⟩
    have := s.okk v s.top
    rw [h] at this; cases this
  · show ∀ x, ¬ _
    rintro x ⟨q, s, _⟩
    have := s.okk v s.top
    rw [h] at this; cases this
theorem take_drop_map {α β : Type} (f : α → β) (l : List α) (i : Nat) : (l.map f).take i ++ (l.map f).drop (i + 1) = (l.take i ++ l.drop (i + 1)).map f := by
  rw [List.map_append, List.map_take, List.map_drop]
theorem split_at {α : Type} {l : List α} {i : Nat} {a : α} (h : l[i]? = some a) : l = l.take i ++ a :: l.drop (i + 1) := by
  have hi := (List.getElem?_eq_some_iff.mp h)
  obtain ⟨hl, e⟩ := hi
  have h1 := List.take_append_drop i l
  rw [← List.getElem_cons_drop hl, e] at h1
  exact h1.symm
theorem row_join {rs : List Room} (g : Rms rs) {k : Kind} {w : Nat → Int} {v : Nat} (hv : v < rs.length) (hk : k.ok v = true) {R : Nat → Option Int × Option Int} (h : ∀ u ∈ kids rs v, RowOf rs k w u (R u)) :
    RowOf rs k w v (joinA (w v) ((kids rs v).map fun u => (kidO k u (R u).1, kidO k u (R u).2)), joinB (w v) ((kids rs v).map fun u => (kidO k u (R u).1, kidO k u (R u).2))) := by
  have hA : ∀ u ∈ kids rs v, Least (CS rs k w u) (kidO k u (R u).1) := fun u hu => kidO_least (h u hu).all
  have hB : ∀ u ∈ kids rs v, Least (CL rs k w u) (kidO k u (R u).2) := fun u hu => kidO_least (h u hu).lack
  refine ⟨?_, ?_⟩
  · show Least _ (joinA _ _)
    unfold joinA
    rw [List.map_map]
    have := least_plus (w v) (least_add kids_nodup hA)
    rw [addO_cons] at this
    refine this.congr fun x => ?_
    rw [vs_kids g hv hk]
    constructor
    · rintro ⟨f, hf, e⟩; exact ⟨_, ⟨f, hf, rfl⟩, e⟩
    · rintro ⟨y, ⟨f, hf, rfl⟩, e⟩; exact ⟨f, hf, e⟩
  · show Least _ (joinB _ _)
    unfold joinB
    rw [List.zipIdx_map, List.map_map]
    have key : ∀ p ∈ (kids rs v).zipIdx, Least (fun x => ∃ f : Nat → Int, (CL rs k w p.1 (f p.1) ∧ ∀ u ∈ kids rs v, u ≠ p.1 → CS rs k w u (f u)) ∧ x = w v + ((kids rs v).map f).sum)
        (addO (some (w v) :: kidO k p.1 (R p.1).2 :: (((kids rs v).map fun u => kidO k u (R u).1).take p.2 ++ ((kids rs v).map fun u => kidO k u (R u).1).drop (p.2 + 1)))) := by
      rintro ⟨a, i⟩ hp
      have hi : (kids rs v)[i]? = some a := by
        have := List.mem_zipIdx hp
        simp only [Nat.sub_zero, Nat.zero_le, Nat.zero_add, true_and] at this
        exact List.getElem?_eq_some_iff.mpr ⟨this.1, this.2.symm⟩
      have ha : a ∈ kids rs v := List.mem_of_getElem? hi
      have hs := split_at hi
      have hnd : ∀ u ∈ (kids rs v).take i ++ (kids rs v).drop (i + 1), u ≠ a := fun u hu hua => by
        have hd := kids_nodup (rs := rs) (v := v)
        rw [hs] at hd
        have := (List.perm_middle.nodup_iff.mp hd)
        exact (List.nodup_cons.mp this).1 (by rw [← hua]; exact hu)
      have hL := least_plus (w v) (least_add (P := fun u => if u = a then CL rs k w u else CS rs k w u) (c := fun u => if u = a then kidO k u (R u).2 else kidO k u (R u).1) kids_nodup fun u hu => by
        by_cases hua : u = a
        · simp only [hua, if_true]; exact hB a ha
        · simp only [hua, if_false]; exact hA u hu)
      rw [addO_cons] at hL
      have e : addO (some (w v) :: kidO k a (R a).2 :: (((kids rs v).map fun u => kidO k u (R u).1).take i ++ ((kids rs v).map fun u => kidO k u (R u).1).drop (i + 1))) = addO (some (w v) :: (kids rs v).map fun u => if u = a then kidO k u (R u).2 else kidO k u (R u).1) := by
        refine addO_perm (List.Perm.cons _ ?_)
        rw [take_drop_map]
        have e2 : (kids rs v).map (fun u => if u = a then kidO k u (R u).2 else kidO k u (R u).1) = ((kids rs v).take i ++ a :: (kids rs v).drop (i + 1)).map fun u => if u = a then kidO k u (R u).2 else kidO k u (R u).1 := by rw [← hs]
        rw [e2]
        refine List.Perm.symm ((List.perm_middle.map _).trans ?_)
        rw [List.map_cons, if_pos rfl]
        refine List.Perm.cons _ ?_
        rw [List.map_congr_left fun u hu => if_neg (hnd u hu)]
      show Least _ (addO (some (w v) :: kidO k a (R a).2 :: _))
      rw [e]
      refine hL.congr fun x => ?_
      constructor
      · rintro ⟨f, ⟨h1, h2⟩, e3⟩
        refine ⟨_, ⟨f, fun u hu => ?_, rfl⟩, e3⟩
        by_cases hua : u = a
        · simp only [hua, if_true]; exact h1
        · simp only [hua, if_false]; exact h2 u hu hua
      · rintro ⟨y, ⟨f, hf, rfl⟩, e3⟩
        refine ⟨f, ⟨?_, fun u hu hua => ?_⟩, e3⟩
        · have := hf a ha; simpa only [if_true] using this
        · have := hf u hu; simpa only [hua, if_false] using this
    have hm := least_min key
    refine (Least.congr (P := fun x => ∃ p ∈ (kids rs v).zipIdx, ∃ f : Nat → Int, (CL rs k w p.1 (f p.1) ∧ ∀ u ∈ kids rs v, u ≠ p.1 → CS rs k w u (f u)) ∧ x = w v + ((kids rs v).map f).sum) ?_ fun x => ?_)
    · refine Eq.mp ?_ hm
      congr 2
      apply List.map_congr_left
      rintro ⟨a, i⟩ _
      simp only [Function.comp, List.map_map]
      rfl
    · rw [vl_kids g hv hk]
      constructor
      · rintro ⟨f, ⟨a, ha, h1, h2⟩, e⟩
        obtain ⟨i, hi, hia⟩ := List.getElem_of_mem ha
        refine ⟨(a, i), ?_, f, ⟨h1, h2⟩, e⟩
        rw [List.mem_zipIdx_iff_getElem?]
        exact List.getElem?_eq_some_iff.mpr ⟨hi, hia⟩
      · rintro ⟨⟨a, i⟩, hp, f, ⟨h1, h2⟩, e⟩
        refine ⟨f, ⟨a, ?_, h1, h2⟩, e⟩
        rw [List.mem_zipIdx_iff_getElem?] at hp
        exact List.mem_of_getElem? hp
end Lw

/-! VK: what the net table's functions compute. -/
namespace Lw
open PySem Pf
open L2 (ixN atI)
def oI : Option Int → D
  | none => .non
  | some i => .int i
theorem non_oI : ∀ cs : List (Option Int), memV false .non (.lst (cs.map oI)) = .ok (cs.any fun c => c.isNone) := fun cs => by
  have h : ∀ cs : List (Option Int), D.mem .non (cs.map oI) = cs.any fun c => c.isNone := fun cs => by
    induction cs with
    | nil => rfl
    | cons c cs ih =>
      unfold D.mem at *
      rw [List.map_cons, List.any_cons, ih, List.any_cons]
      congr 1
      cases c with
      | none => show D.eqv .non .non = true; unfold D.eqv D.py; simp [PyData.eqv]
      | some i => exact eqv_int_non i
  show gd (decide (D.non.dep ≤ 60)) _ = _
  rw [dep_non, h]
  show Res.ok _ = _
  simp
theorem addO_none : ∀ {cs : List (Option Int)}, (cs.any fun c => c.isNone) = true → addO cs = none
  | [], h => by cases h
  | c :: cs, h => by
    show plusO c (addO cs) = none
    cases c with
    | none => rfl
    | some a =>
      rw [addO_none (cs := cs) (by simpa using h)]
      rfl
theorem addO_some : ∀ {cs : List (Option Int)}, (cs.any fun c => c.isNone) = false → ∃ l : List Int, cs = l.map some ∧ addO cs = some l.sum
  | [], _ => ⟨[], rfl, rfl⟩
  | c :: cs, h => by
    cases c with
    | none => simp at h
    | some a =>
      obtain ⟨l, e1, e2⟩ := addO_some (cs := cs) (by simpa using h)
      refine ⟨a :: l, by rw [e1]; rfl, ?_⟩
      show plusO (some a) (addO cs) = _
      rw [e2]
      simp [plusO]
theorem added_spec (cs : List (Option Int)) : v_added (.lst (cs.map oI)) = .ok (oI (addO cs)) := by
  unfold v_added
  rw [non_oI, okb]
  cases h : (cs.any fun c => c.isNone) with
  | true => rw [if_pos rfl, addO_none h]; rfl
  | false =>
    obtain ⟨l, rfl, e⟩ := addO_some h
    rw [if_neg (by simp), List.map_map, e]
    have : (l.map (oI ∘ some)) = l.map D.int := rfl
    rw [this, sumI]
    rfl
theorem minO_ints : ∀ (ns : List Int) (m : Int), minO ((m :: ns).map some) = some (minInts m ns)
  | [], m => rfl
  | n :: ns, m => by
    have h1 := minO_ints ns n
    have h2 := minO_ints ns (if n < m then n else m)
    have e : minO ((m :: n :: ns).map some) = lessO (some m) (lessO (some n) (minO (ns.map some))) := rfl
    have e1 : minO ((n :: ns).map some) = lessO (some n) (minO (ns.map some)) := rfl
    have e2 : minO (((if n < m then n else m) :: ns).map some) = lessO (some (if n < m then n else m)) (minO (ns.map some)) := rfl
    rw [e, minInts, ← h2, e2]
    cases minO (ns.map some) with
    | none => rfl
    | some b =>
      show some _ = some _
      congr 1
      by_cases h3 : n < m
      · rw [if_pos h3]
        by_cases h4 : b < n
        · rw [if_pos h4, if_pos (by omega)]
        · rw [if_neg h4, if_pos h3]
      · rw [if_neg h3]
        by_cases h4 : b < n
        · rw [if_pos h4]
        · rw [if_neg h4]
          by_cases h5 : b < m
          · omega
          · rw [if_neg h5, if_neg h3]
theorem minO_filter : ∀ cs : List (Option Int), minO cs = minO ((cs.filterMap id).map some)
  | [] => rfl
  | c :: cs => by
    show lessO c (minO cs) = _
    rw [minO_filter cs]
    cases c <;> rfl
theorem least_of_spec (cs : List (Option Int)) (h : cs.length ≤ 1000000) : v_least_of (.lst (cs.map oI)) = .ok (oI (minO cs)) := by
  unfold v_least_of
  rw [itemsV_lst, okb, mapV_ok (h := fun c : Option Int => c.map D.int) (fun c _ => by cases c <;> rfl) h, okb, ne_nil, okb, minO_filter cs]
  have e : (cs.filterMap fun c : Option Int => c.map D.int) = (cs.filterMap id).map D.int := by
    rw [List.map_filterMap]; rfl
  rw [e]
  cases (cs.filterMap id) with
  | nil => rfl
  | cons n ns =>
    rw [minO_ints]
    show ((minV (.lst ((n :: ns).map D.int))).bind _).bind _ = _
    have e2 : minV (.lst ((n :: ns).map D.int)) = .ok (.int (minInts n ns)) := by
      unfold minV lift1 minS
      show (bestList minInts _).bind _ = _
      unfold bestList
      rw [listOf_lst]
      dsimp only
      rw [intsOf_ints]
      rfl
    rw [e2]
    rfl
def pairD (p : Option Int × Option Int) : D := .tup [oI p.1, oI p.2]
theorem fold_app {α : Type} {f : D → List D → Res (List D)} {g e : α → D} : ∀ (xs : List α) (acc : List D), (∀ x ∈ xs, ∀ acc : List D, acc.length ≤ 900000 → f (g x) acc = .ok (acc ++ [e x])) → acc.length + xs.length ≤ 900000 → foldV f (xs.map g) acc = .ok (acc ++ xs.map e)
  | [], acc, _, _ => by rw [List.map_nil, List.map_nil, List.append_nil]; rfl
  | x :: xs, acc, h, hz => by
    rw [List.length_cons] at hz
    rw [List.map_cons, foldV, h x List.mem_cons_self acc (by omega), okb, fold_app xs _ (fun y hy => h y (List.mem_cons_of_mem _ hy)) (by rw [List.length_append, List.length_singleton]; omega), List.map_cons, List.append_assoc]
    rfl
theorem cut_take (ds : List D) (i : Nat) : Pf.cutD ds none (some (i : Int)) = ds.take i := by
  unfold Pf.cutD
  rw [HT.sIx_none, HT.sIx_nat, List.drop_zero, Nat.sub_zero]
  rw [Nat.min_def]
  split
  · rfl
  · rw [List.take_of_length_le (Nat.le_refl _), List.take_of_length_le (by omega)]
theorem cut_drop (ds : List D) (i : Nat) : Pf.cutD ds (some (i : Int)) none = ds.drop i := by
  unfold Pf.cutD
  rw [HT.sIx_none, HT.sIx_nat, Nat.min_def]
  split
  · rw [List.take_of_length_le (by rw [List.length_drop]; exact Nat.le_refl _)]
  · rw [List.drop_of_length_le (Nat.le_refl _), List.drop_of_length_le (by omega), List.take_nil]
theorem joined_spec (own : Int) (cs : List (Option Int × Option Int)) (h : cs.length ≤ 1000) : v_joined_rows (.int own) (.lst (cs.map pairD)) = .ok (pairD (joinA own cs, joinB own cs)) := by
  unfold v_joined_rows
  have e1 : mapV vc_joined_rows_1 (cs.map pairD) = .ok (cs.map fun p => oI p.1) := mapV_map _ (fun p _ => rfl) (by omega)
  have em : (cs.map fun p => oI p.1) = (cs.map (·.1)).map oI := by rw [List.map_map]; rfl
  rw [itemsV_lst, okb, e1, okb, okb, dat_lst, okb, enumL_map, em]
  rw [fold_app (e := fun p : (Option Int × Option Int) × Nat => oI (addO (some own :: p.1.2 :: ((cs.map (·.1)).take p.2 ++ (cs.map (·.1)).drop (p.2 + 1))))) _ [] (fun p hp acc ha => ?_) (by rw [List.length_nil, List.length_zipIdx]; omega), okb]
  · have es : seqV (.lst ((cs.map (·.1)).map oI)) = .ok ((cs.map (·.1)).map oI) := rfl
    rw [es, okb]
    have ej : joinV ([D.int own] ++ (cs.map (·.1)).map oI) = .ok ((some own :: cs.map (·.1)).map oI) := by
      unfold joinV
      rw [sz_ok (by simp; omega)]
      rfl
    rw [ej, okb, added_spec, okb, List.nil_append]
    have e3 : ((cs.zipIdx).map fun p : (Option Int × Option Int) × Nat => oI (addO (some own :: p.1.2 :: ((cs.map (·.1)).take p.2 ++ (cs.map (·.1)).drop (p.2 + 1))))) = ((cs.zipIdx).map fun p : (Option Int × Option Int) × Nat => addO (some own :: p.1.2 :: ((cs.map (·.1)).take p.2 ++ (cs.map (·.1)).drop (p.2 + 1)))).map oI := by
      rw [List.map_map]; rfl
    rw [e3, least_of_spec _ (by rw [List.length_map, List.length_zipIdx]; omega), okb]
    rfl
  · obtain ⟨p, i⟩ := p
    unfold vb_joined_rows_2
    rw [un2_e, okb]
    dsimp only
    show ((un2 (pairD p)).bind _) = _
    rw [show un2 (pairD p) = .ok (oI p.1, oI p.2) from rfl, okb]
    dsimp only
    have ei : intD (nD i) = .ok (i : Int) := rfl
    rw [ei, okb]
    have e4 : sliV (.lst ((cs.map (·.1)).map oI)) none (some (i : Int)) = .ok (.lst (((cs.map (·.1)).take i).map oI)) := by
      unfold sliV
      show Res.ok (OV.er (.ls ((Pf.cutD _ _ _).map OV.fz))) = _
      rw [cut_take, OV.er, OV.ers_fz, List.map_take]
    have e5 : sliV (.lst ((cs.map (·.1)).map oI)) (some ((i : Int) + 1)) none = .ok (.lst (((cs.map (·.1)).drop (i + 1)).map oI)) := by
      unfold sliV
      show Res.ok (OV.er (.ls ((Pf.cutD _ _ _).map OV.fz))) = _
      have := cut_drop ((cs.map (·.1)).map oI) (i + 1)
      rw [show ((i : Int) + 1) = ((i + 1 : Nat) : Int) from by omega, this, OV.er, OV.ers_fz, List.map_drop]
    have hl1 : ((cs.map (·.1)).take i).length ≤ 1000 := by rw [List.length_take, List.length_map]; omega
    have hl2 : ((cs.map (·.1)).drop (i + 1)).length ≤ 1000 := by rw [List.length_drop, List.length_map]; omega
    rw [e4, okb, cat_ok (by simp only [List.length_cons, List.length_nil, List.length_map]; omega), okb]
    show ((addV (.int i) (.int 1)).bind _) = _
    rw [addI, okb, show intD (.int ((i : Int) + 1)) = .ok ((i : Int) + 1) from rfl, okb, e5, okb, cat_ok (by simp only [List.length_append, List.length_cons, List.length_nil, List.length_map]; omega), okb]
    have e6 : ([D.int own, oI p.2] ++ ((cs.map (·.1)).take i).map oI ++ ((cs.map (·.1)).drop (i + 1)).map oI) = (some own :: p.2 :: ((cs.map (·.1)).take i ++ (cs.map (·.1)).drop (i + 1))).map oI := by
      simp [oI]
    rw [e6, added_spec, okb, app_ok (by omega), okb]
def rowD (a b : Option Int × Option Int) : D := .tup [oI a.1, oI a.2, oI b.1, oI b.2]
def kindP (rs : List Room) (big : Option Nat) : Kind := ⟨fun u => decide (wayOf rs u = .opn), fun u => !decide (wayOf rs u = .bar), fun u => !decide (big = some u)⟩
def dueL (rs : List Room) (big : Option Nat) : List Nat := match big with
  | none => []
  | some b => wayL rs b
def kindO (rs : List Room) (big : Option Nat) : Kind := ⟨fun u => !decide (wayOf rs u = .lck) || decide (u ∈ dueL rs big), fun _ => true, fun _ => big.isSome⟩
theorem choice_plain_spec {rs : List Room} {big : Option Nat} {u : Nat} (hw : wayOf rs u ≠ .non) (a b : Option Int × Option Int) :
    v_choice_plain (wayOf rs u).d (rowD a b) = .ok (pairD (kidO (kindP rs big) u a.1, kidO (kindP rs big) u a.2)) := by
  unfold v_choice_plain
  have i0 : idxV (rowD a b) (.int 0) = .ok (oI a.1) := it0 _ _
  have i1 : idxV (rowD a b) (.int 1) = .ok (oI a.2) := it1 _ _ _
  rw [way_opn, okb, i0, i1, okb, okb, way_bar, okb]
  unfold kidO kindP
  dsimp only
  by_cases h1 : wayOf rs u = .opn
  · simp only [h1, decide_true, if_true, reduceCtorEq, decide_false, Bool.not_false]
    rfl
  · by_cases h2 : wayOf rs u = .bar
    · simp only [h2, decide_true, if_true, reduceCtorEq, decide_false, Bool.not_true, Bool.false_eq_true, if_false]
      rfl
    · simp only [h1, h2, decide_false, Bool.false_eq_true, if_false, Bool.not_false, if_true]
      rw [okb]
      have e1 := least_of_spec [some 0, a.1] (by simp)
      have e2 := least_of_spec [some 0, a.2] (by simp)
      show (v_least_of (.lst ([some 0, a.1].map oI))).bind _ = _
      rw [e1, okb]
      show (Res.ok (oI a.2)).bind _ = _
      rw [okb]
      show (v_least_of (.lst ([some 0, a.2].map oI))).bind _ = _
      rw [e2]
      rfl
theorem choice_opened_spec {rs : List Room} {big : Option Nat} {u : Nat} (a b : Option Int × Option Int) :
    v_choice_opened (wayOf rs u).d (rowD a b) (.bl (decide (u ∈ dueL rs big))) = .ok (pairD (kidO (kindO rs big) u b.1, kidO (kindO rs big) u b.2)) := by
  unfold v_choice_opened
  have i2 : idxV (rowD a b) (.int 2) = .ok (oI b.1) := it2 _ _ _ _
  have i3 : idxV (rowD a b) (.int 3) = .ok (oI b.2) := rfl
  rw [way_nlck, okb, i2, i3, okb, okb]
  have et : ∀ c : Bool, truV (.bl c) = .ok c := fun c => rfl
  rw [et]
  unfold kidO kindO
  dsimp only
  by_cases hx : wayOf rs u = .lck
  · by_cases hd : u ∈ dueL rs big
    · simp only [hx, hd, decide_true, Bool.not_true, Bool.false_eq_true, if_false, okb, if_true, Bool.false_or]
      rfl
    · simp only [hx, hd, decide_true, Bool.not_true, Bool.false_eq_true, if_false, okb, if_true, decide_false, Bool.or_self]
      have e1 := least_of_spec [some 0, b.1] (by simp)
      have e2 := least_of_spec [some 0, b.2] (by simp)
      show (v_least_of (.lst ([some 0, b.1].map oI))).bind _ = _
      rw [e1, okb]
      show (v_least_of (.lst ([some 0, b.2].map oI))).bind _ = _
      rw [e2]
      rfl
  · simp only [hx, decide_false, Bool.not_false, if_true, okb, Bool.true_or]
    rfl
theorem way_to_none {rs : List Room} {k : Nat} : v_way_to (dunD rs k) .non = .ok (.tup []) := by
  unfold v_way_to
  rw [okb]
  have e : whlV (vt_way_to_1 (dunD rs k)) (vb_way_to_1 (dunD rs k)) WF (D.non, []) = .ok (D.non, []) := by
    have e0 : WF = (WF - 1) + 1 := by unfold WF; rfl
    rw [e0, whlV, show vt_way_to_1 (dunD rs k) (D.non, []) = .ok false from rfl, okb, if_neg (by simp)]
  rw [e, okb]
  have := sortN (l := []) (n := 0) List.nodup_nil (fun v hv => by cases hv) (by omega)
  show (sortV (.lst (([] : List Nat).map nD))).bind _ = _
  rw [this, okb, tupL, okb]
  rfl
theorem way_to_big {rs : List Room} {k : Nat} (g : Rms rs) (hn : rs.length ≤ 1000) {big : Option Nat} (hb : ∀ b, big = some b → b < rs.length) : v_way_to (dunD rs k) (oD big) = .ok (.tup ((dueL rs big).map nD)) := by
  cases big with
  | none => exact way_to_none
  | some b => exact way_to_spec g hn (hb b rfl)
end Lw

/-! VK2: children, and the net table. -/
namespace Lw
open PySem Pf
open L2 (ixN atI)
theorem stV_nat {xs : List D} {p : Nat} {d : D} (h : p < xs.length) : stV xs (nD p) d = .ok (xs.set p d) := by
  show (match ixN xs.length (p : Int) with | some j => Res.ok (xs.set j d) | none => .bad) = _
  rw [ixN_nat h]
theorem nappV_nat {xss : List (List D)} {p : Nat} {ys : List D} {d : D} (h : xss[p]? = some ys) (hz : ys.length ≤ 1000000) : nappV xss (nD p) d = .ok (xss.set p (ys ++ [d])) := by
  have hp := (List.getElem?_eq_some_iff.mp h).1
  show (match ixN xss.length (p : Int) with | some j => (match xss[j]? with | some ys => gd (decide (ys.length < sizeLine)) (xss.set j (ys ++ [d])) | none => .bad) | none => .bad) = _
  rw [ixN_nat hp]
  dsimp only
  rw [h]
  dsimp only
  rw [sz_lt hz]
  rfl
def kidsTo (rs : List Room) (i p : Nat) : List Nat := lot i fun u => decide (parOf rs u = some p)
theorem children_spec {rs : List Room} {k : Nat} (g : Rms rs) (hn : rs.length ≤ 1000) : v_children_of (dunD rs k) = .ok (.lst ((List.range rs.length).map fun p => .lst ((kids rs p).map nD))) := by
  unfold v_children_of
  rw [dun0, okb, items_rooms, okb]
  have en : nestV ((List.range rs.length).map (rD rs)) = .ok ((List.range rs.length).map fun p => ((kidsTo rs 0 p).map nD)) := by
    unfold nestV
    rw [sz_ok (by rw [List.length_map, List.length_range]; omega), List.map_map]
    rfl
  rw [en, okb, okb, enum_rooms, okb]
  have hstep : ∀ (i : Nat) (d : D) (s : List (List D)), ((List.range rs.length).map fun v => D.tup [nD v, rD rs v])[i]? = some d → s = ((List.range rs.length).map fun p => ((kidsTo rs (0 + i) p).map nD)) →
      ∃ s', vb_children_of_2 d s = .ok s' ∧ s' = ((List.range rs.length).map fun p => ((kidsTo rs (0 + i + 1) p).map nD)) := by
    rintro i d s hd rfl
    rw [List.getElem?_map] at hd
    have hi : i < rs.length := by
      by_cases h : i < rs.length
      · exact h
      · rw [List.getElem?_eq_none (by rw [List.length_range]; omega)] at hd; cases hd
    rw [List.getElem?_range hi] at hd
    cases hd
    refine ⟨_, ?_, rfl⟩
    unfold vb_children_of_2
    rw [un2_e, okb]
    dsimp only
    rw [rDu, okb]
    dsimp only
    rw [isnot_non, okb]
    have es : ∀ p, kidsTo rs (0 + i + 1) p = kidsTo rs (0 + i) p ++ (if decide (parOf rs i = some p) = true then [i] else []) := fun p => by
      unfold kidsTo
      rw [Nat.zero_add, lot_succ]
    cases hp : parOf rs i with
    | none =>
      rw [if_neg (by simp [oD, isNonD]), okb]
      congr 1
      apply List.map_congr_left
      intro p _
      rw [es p, hp]
      simp
    | some p =>
      have hpl := g.par_lt hp
      have hg : ((List.range rs.length).map fun p => ((kidsTo rs (0 + i) p).map nD))[p]? = some ((kidsTo rs (0 + i) p).map nD) := by
        rw [List.getElem?_map, List.getElem?_range (by omega)]; rfl
      have hk : (kidsTo rs (0 + i) p).length ≤ 0 + i := lot_len
      rw [if_pos (by simp [oD, isNonD])]
      show ((nappV _ (nD p) (nD i)).bind _).bind _ = _
      rw [nappV_nat hg (by rw [List.length_map]; omega), okb, okb]
      congr 1
      apply List.ext_getElem?
      intro j
      rw [List.getElem?_set]
      by_cases hj : j < rs.length
      · rw [List.getElem?_map, List.getElem?_map, List.getElem?_range hj]
        by_cases hjp : p = j
        · subst hjp
          rw [if_pos rfl, if_pos (by rw [List.length_map, List.length_range]; exact hj)]
          simp only [Option.map_some]
          rw [es p, hp]
          simp
        · rw [if_neg hjp]
          simp only [Option.map_some]
          rw [es j, hp]
          simp [hjp]
      · rw [if_neg (by omega)]
        rw [List.getElem?_eq_none (by rw [List.length_map, List.length_range]; omega), List.getElem?_eq_none (by rw [List.length_map, List.length_range]; omega)]
  obtain ⟨s', e, es⟩ := foldV_ix (P := fun i s => s = ((List.range rs.length).map fun p => ((kidsTo rs i p).map nD))) (k := 0) (fun i d s hd hs => hstep i d s hd hs) _ rfl
  rw [e, okb, es]
  congr 2
  rw [List.map_map]
  apply List.map_congr_left
  intro p _
  show D.lst ((kidsTo rs (0 + ((List.range rs.length).map _).length) p).map nD) = _
  rw [List.length_map, List.length_range, Nat.zero_add]
  rfl
/-! the table -/
def wI (rs : List Room) (small : List Nat) (v : Nat) : Int := (((small[v]?).getD 0 : Nat) : Int) - (if wayOf rs v = .lck then 1 else 0)
theorem kid_way {rs : List Room} (g : Rms rs) {u v : Nat} (h : u ∈ kids rs v) : wayOf rs u ≠ .non := by
  obtain ⟨_, _, _, hw⟩ := g.par (mem_kids.mp h).1 (by have := (kid_lt g h).1; omega)
  exact hw
theorem kids_len {rs : List Room} {v : Nat} : (kids rs v).length ≤ rs.length := lot_len
def nonRow : D := rowD (none, none) (none, none)
theorem add_pairs (a b : Option Int × Option Int) : addV (pairD a) (pairD b) = .ok (rowD a b) := by
  unfold pairD
  rw [addT, decide_eq_true (show ([oI a.1, oI a.2] : List D).length + ([oI b.1, oI b.2] : List D).length ≤ sizeLine from by show 4 ≤ _; decide)]
  rfl
theorem eq_natO (v : Nat) (o : Option Nat) : eqV (nD v) (oD o) = .ok (decide (o = some v)) := by
  cases o with
  | none =>
    show gd (decide (min (nD v).dep D.non.dep ≤ 60)) _ = _
    rw [dep_non, Nat.min_zero, show D.eqv (nD v) (oD none) = false from eqv_int_non _]
    rfl
  | some w =>
    show eqV (.int v) (.int w) = _
    rw [eqI]
    congr 1
    by_cases h : v = w
    · subst h; simp
    · rw [decide_eq_false (by omega), decide_eq_false (by simp; omega)]
def rowsTo (n j : Nat) (R S : Nat → Option Int × Option Int) : List D := (List.range n).map fun u => if n ≤ u + j then rowD (R u) (S u) else nonRow
theorem rowsTo_at {n j u : Nat} {R S : Nat → Option Int × Option Int} (hu : u < n) (h : n ≤ u + j) : idxV (.lst (rowsTo n j R S)) (nD u) = .ok (rowD (R u) (S u)) := by
  refine ix_lst ?_
  unfold rowsTo
  rw [List.getElem?_map, List.getElem?_range hu]
  simp only [Option.map_some]
  rw [if_pos h]
theorem table_turn {rs : List Room} {k : Nat} (g : Rms rs) (hn : rs.length ≤ 1000) {big : Option Nat} {small : List Nat} (hs : small.length = rs.length) {j : Nat} (hj : j < rs.length) {R S : Nat → Option Int × Option Int}
    (hR : ∀ u, u < rs.length → rs.length ≤ u + j → RowOf rs (kindP rs big) (wI rs small) u (R u)) (hS : ∀ u, u < rs.length → rs.length ≤ u + j → RowOf rs (kindO rs big) (wI rs small) u (S u)) :
    ∃ R' S', vb_net_table_1 (.tup (rs.map roomD)) (oD big) (.tup (small.map nD)) (.lst ((List.range rs.length).map fun p => .lst ((kids rs p).map nD))) (.tup ((dueL rs big).map nD)) (nD (rs.length - 1 - j)) (rowsTo rs.length j R S) = .ok (rowsTo rs.length (j + 1) R' S') ∧
      (∀ u, u < rs.length → rs.length ≤ u + (j + 1) → RowOf rs (kindP rs big) (wI rs small) u (R' u)) ∧ (∀ u, u < rs.length → rs.length ≤ u + (j + 1) → RowOf rs (kindO rs big) (wI rs small) u (S' u)) := by
  have hv : rs.length - 1 - j < rs.length := by omega
  generalize hvv : rs.length - 1 - j = v at hv
  have hkid : ∀ u ∈ kids rs v, u < rs.length ∧ rs.length ≤ u + j := fun u hu => by have := kid_lt g hu; omega
  have JP := row_join g (k := kindP rs big) (w := wI rs small) hv
  have JO := row_join g (k := kindO rs big) (w := wI rs small) hv
  have rp : ∃ r, (if (decide (big = some v)) = true then Res.ok (D.tup [D.non, D.non]) else Res.ok (pairD (joinA (wI rs small v) ((kids rs v).map fun u => (kidO (kindP rs big) u (R u).1, kidO (kindP rs big) u (R u).2)), joinB (wI rs small v) ((kids rs v).map fun u => (kidO (kindP rs big) u (R u).1, kidO (kindP rs big) u (R u).2))))) = Res.ok (pairD r) ∧ RowOf rs (kindP rs big) (wI rs small) v r := by
    by_cases hb : big = some v
    · rw [decide_eq_true hb, if_pos rfl]
      exact ⟨(none, none), rfl, vs_no (by show (!decide (big = some v)) = false; rw [decide_eq_true hb]; rfl)⟩
    · rw [decide_eq_false hb, if_neg (by simp)]
      exact ⟨_, rfl, JP (by show (!decide (big = some v)) = true; rw [decide_eq_false hb]; rfl) fun u hu => hR u (hkid u hu).1 (hkid u hu).2⟩
  have ro : ∃ r, (if (isNonD (oD big)) = true then Res.ok (D.tup [D.non, D.non]) else Res.ok (pairD (joinA (wI rs small v) ((kids rs v).map fun u => (kidO (kindO rs big) u (S u).1, kidO (kindO rs big) u (S u).2)), joinB (wI rs small v) ((kids rs v).map fun u => (kidO (kindO rs big) u (S u).1, kidO (kindO rs big) u (S u).2))))) = Res.ok (pairD r) ∧ RowOf rs (kindO rs big) (wI rs small) v r := by
    cases hb : big with
    | none =>
      exact ⟨(none, none), rfl, vs_no rfl⟩
    | some b =>
      rw [if_neg (by simp [oD, isNonD])]
      rw [hb] at JO hS
      exact ⟨_, rfl, JO rfl fun u hu => hS u (hkid u hu).1 (hkid u hu).2⟩
  obtain ⟨r1, e1, h1⟩ := rp
  obtain ⟨r2, e2, h2⟩ := ro
  refine ⟨fun u => if u = v then r1 else R u, fun u => if u = v then r2 else S u, ?_, fun u hu hz => ?_, fun u hu hz => ?_⟩
  · unfold vb_net_table_1
    have ews : idxV (.tup (small.map nD)) (nD v) = .ok (nD ((small[v]?).getD 0)) := by
      refine ix_tup ?_
      rw [List.getElem?_map, List.getElem?_eq_getElem (by omega)]
      rfl
    have eint : ∀ b : Bool, intV (.bl b) = .ok (.int (if b = true then 1 else 0)) := fun b => by cases b <;> rfl
    have ekids : idxV (.lst ((List.range rs.length).map fun p => .lst ((kids rs p).map nD))) (nD v) = .ok (.lst ((kids rs v).map nD)) := by
      refine ix_lst ?_
      rw [List.getElem?_map, List.getElem?_range hv]; rfl
    rw [ews, okb, ix_room hv, okb, rD1, okb, way_lck, okb, eint, okb]
    show ((subV (.int _) (.int _)).bind _) = _
    rw [subI, okb]
    have ew : (((small[v]?).getD 0 : Nat) : Int) - (if decide (wayOf rs v = .lck) = true then 1 else 0) = wI rs small v := by
      unfold wI
      by_cases h : wayOf rs v = .lck
      · simp [h]
      · simp [h]
    rw [ew, ekids, okb, itemsV_lst, okb]
    have em1 : mapV (vc_net_table_2 (.tup (rs.map roomD)) (rowsTo rs.length j R S)) ((kids rs v).map nD) = .ok (((kids rs v).map fun u => (kidO (kindP rs big) u (R u).1, kidO (kindP rs big) u (R u).2)).map pairD) := by
      rw [List.map_map]
      refine mapV_map _ (fun u hu => ?_) (by have := kids_len (rs := rs) (v := v); omega)
      unfold vc_net_table_2
      have hk := hkid u hu
      rw [ix_room hk.1, okb, rD1, okb, rowsTo_at hk.1 hk.2, okb, choice_plain_spec (big := big) (kid_way g hu), okb]
      rfl
    have em2 : mapV (vc_net_table_3 (.tup (rs.map roomD)) (.tup ((dueL rs big).map nD)) (rowsTo rs.length j R S)) ((kids rs v).map nD) = .ok (((kids rs v).map fun u => (kidO (kindO rs big) u (S u).1, kidO (kindO rs big) u (S u).2)).map pairD) := by
      rw [List.map_map]
      refine mapV_map _ (fun u hu => ?_) (by have := kids_len (rs := rs) (v := v); omega)
      unfold vc_net_table_3
      have hk := hkid u hu
      rw [ix_room hk.1, okb, rD1, okb, rowsTo_at hk.1 hk.2, okb, mem_tupN, okb]
      rw [Bool.false_xor, choice_opened_spec, okb]
      rfl
    have hkl := kids_len (rs := rs) (v := v)
    rw [em1, okb, joined_spec _ _ (by rw [List.length_map]; omega), okb, okb, itemsV_lst, okb, em2, okb, joined_spec _ _ (by rw [List.length_map]; omega), okb, eq_natO, okb, e1, okb]
    have eis : isV (oD big) .non = .ok (isNonD (oD big)) := rfl
    rw [eis, okb, e2, okb, add_pairs, okb, stV_nat (by unfold rowsTo; rw [List.length_map, List.length_range]; exact hv), okb]
    congr 1
    apply List.ext_getElem?
    intro i
    rw [List.getElem?_set]
    unfold rowsTo
    by_cases hi : i < rs.length
    · rw [List.getElem?_map, List.getElem?_map, List.getElem?_range hi]
      by_cases hiv : v = i
      · subst hiv
        rw [if_pos rfl, if_pos (by rw [List.length_map, List.length_range]; exact hi)]
        simp only [Option.map_some]
        rw [if_pos (by omega)]
        simp only [if_true]
      · rw [if_neg hiv]
        simp only [Option.map_some]
        rw [if_neg (Ne.symm hiv), if_neg (Ne.symm hiv)]
        by_cases hz : rs.length ≤ i + j
        · rw [if_pos hz, if_pos (by omega)]
        · rw [if_neg hz, if_neg (by omega)]
    · rw [if_neg (by omega)]
      rw [List.getElem?_eq_none (by rw [List.length_map, List.length_range]; omega), List.getElem?_eq_none (by rw [List.length_map, List.length_range]; omega)]
  · by_cases huv : u = v
    · subst huv; simp only [if_true]; exact h1
    · simp only [huv, if_false]; exact hR u hu (by omega)
  · by_cases huv : u = v
    · subst huv; simp only [if_true]; exact h2
    · simp only [huv, if_false]; exact hS u hu (by omega)
theorem rng_down {n : Nat} (h : n ≤ 1000) (h0 : 0 < n) : rng3V (.int ((n : Int) - 1)) (.int (-1)) (.int (-1)) = .ok ((List.range n).map fun i => nD (n - 1 - i)) := by
  have e1 : Builtin.Range.rangeSize ((n : Int) - 1) (-1) (-1) = (n : Int) := by
    unfold Builtin.Range.rangeSize
    rw [if_neg (by decide), if_pos (by omega)]
    have : -(-1 : Int) = 1 := rfl
    rw [this, Int.ediv_one]
    omega
  have e2 : Builtin.Range.small ((n : Int) - 1) (-1) (-1) = true := by
    unfold Builtin.Range.small
    rw [e1]
    have f : ∀ i : Int, -1 ≤ i → i ≤ 1000 → Builtin.Range.rangeFitsLong i = true := fun i h1 h2 => by
      unfold Builtin.Range.rangeFitsLong
      simp
      omega
    simp only [f ((n : Int) - 1) (by omega) (by omega), f (-1) (by omega) (by omega), f (n : Int) (by omega) (by omega)]
    simp
    exact .inr (f (-1) (by omega) (by omega))
  show gd (decide _ && Builtin.Range.small _ _ _) (rangeL _ (Builtin.Range.rangeSize ((n : Int) - 1) (-1) (-1)).toNat (-1)) = _
  rw [e1, e2, Bool.and_true, decide_eq_true (by refine ⟨by decide, by decide, by omega⟩), Int.toNat_natCast]
  show Res.ok _ = Res.ok _
  congr 1
  unfold rangeL
  apply List.map_congr_left
  intro i hi
  have hi := List.mem_range.mp hi
  show D.int _ = D.int _
  congr 1
  omega
theorem net_spec {rs : List Room} {k : Nat} (g : Rms rs) (hn : rs.length ≤ 1000) (h0 : 0 < rs.length) {big : Option Nat} {small : List Nat} (hs : small.length = rs.length) (hb : ∀ b, big = some b → b < rs.length) :
    ∃ R S : Nat → Option Int × Option Int, v_net_table (dunD rs k) (laidD big small) = .ok (.tup ((List.range rs.length).map fun u => rowD (R u) (S u))) ∧ (∀ u, u < rs.length → RowOf rs (kindP rs big) (wI rs small) u (R u)) ∧ (∀ u, u < rs.length → RowOf rs (kindO rs big) (wI rs small) u (S u)) := by
  unfold v_net_table
  rw [dun0, okb, un2_e, okb]
  dsimp only
  rw [show un2 (laidD big small) = .ok (oD big, .tup (small.map nD)) from rfl, okb]
  dsimp only
  rw [children_spec g hn, okb, way_to_big g hn hb, okb, len_rooms, okb]
  have er : repV [D.tup [D.non, D.non, D.non, D.non]] (nD rs.length) = .ok (rowsTo rs.length 0 (fun _ => (none, none)) fun _ => (none, none)) := by
    show gd (decide _) _ = _
    rw [decide_eq_true (by
      refine ⟨by omega, by omega, ?_⟩
      rw [List.length_singleton, Nat.one_mul, Int.toNat_natCast]
      have := big_line; omega)]
    show Res.ok _ = _
    congr 1
    unfold rowsTo
    rw [Int.toNat_natCast]
    apply List.ext_getElem?
    intro i
    by_cases hi : i < rs.length
    · rw [List.getElem?_map, List.getElem?_range hi]
      simp only [Option.map_some]
      rw [if_neg (by omega)]
      have e : ∀ m : Nat, (List.replicate m [nonRow]).flatten = List.replicate m nonRow := fun m => by
        induction m with
        | zero => rfl
        | succ m ih => rw [List.replicate_succ, List.flatten_cons, ih]; rfl
      show ((List.replicate rs.length [nonRow]).flatten)[i]? = _
      rw [e, List.getElem?_replicate, if_pos hi]
    · have e : ∀ m : Nat, (List.replicate m [nonRow]).flatten = List.replicate m nonRow := fun m => by
        induction m with
        | zero => rfl
        | succ m ih => rw [List.replicate_succ, List.flatten_cons, ih]; rfl
      show ((List.replicate rs.length [nonRow]).flatten)[i]? = _
      rw [e, List.getElem?_replicate, if_neg hi, List.getElem?_eq_none (by rw [List.length_map, List.length_range]; omega)]
  have e0 : subV (nD rs.length) (.int 1) = .ok (.int ((rs.length : Int) - 1)) := rfl
  have e1 : negV (.int 1) = .ok (.int (-1)) := rfl
  rw [er, okb, okb, okb, e0, okb, e1, okb, okb, rng_down hn h0, okb]
  obtain ⟨s', e, R, S, es, hR, hS⟩ := foldV_ix (f := vb_net_table_1 (.tup (rs.map roomD)) (oD big) (.tup (small.map nD)) (.lst ((List.range rs.length).map fun p => .lst ((kids rs p).map nD))) (.tup ((dueL rs big).map nD)))
    (P := fun j s => ∃ R S : Nat → Option Int × Option Int, s = rowsTo rs.length j R S ∧ (∀ u, u < rs.length → rs.length ≤ u + j → RowOf rs (kindP rs big) (wI rs small) u (R u)) ∧ (∀ u, u < rs.length → rs.length ≤ u + j → RowOf rs (kindO rs big) (wI rs small) u (S u)))
    (ds := (List.range rs.length).map fun i => nD (rs.length - 1 - i)) (k := 0) (fun j d s hd hs2 => by
      obtain ⟨R, S, rfl, hR, hS⟩ := hs2
      rw [List.getElem?_map] at hd
      have hj : j < rs.length := by
        by_cases h : j < rs.length
        · exact h
        · rw [List.getElem?_eq_none (by rw [List.length_range]; omega)] at hd; cases hd
      rw [List.getElem?_range hj] at hd
      cases hd
      rw [Nat.zero_add] at hR hS ⊢
      obtain ⟨R', S', e, h1, h2⟩ := table_turn (k := k) g hn hs hj hR hS
      exact ⟨_, e, R', S', rfl, h1, h2⟩) (rowsTo rs.length 0 (fun _ => (none, none)) fun _ => (none, none)) ⟨_, _, rfl, fun u hu hz => by omega, fun u hu hz => by omega⟩
  rw [List.length_map, List.length_range, Nat.zero_add] at es hR hS
  refine ⟨R, S, ?_, fun u hu => hR u hu (by omega), fun u hu => hS u hu (by omega)⟩
  have e9 : rowsTo rs.length rs.length R S = (List.range rs.length).map fun u => rowD (R u) (S u) := by
    unfold rowsTo
    apply List.map_congr_left
    intro u _
    rw [if_pos (by omega)]
  rw [e, okb, es, tupL, okb, e9]
end Lw

/-! VM: the law's own stumps and rows. -/
namespace Lw
open PySem Pf
def vb__law_up_1 (dungeon : D) (d : D) (s : D × List D) : Res (D × List D) :=
  (isnotV s.1 D.non).bind fun b_5 => ((if b_5 = true then (appV s.2 s.1).bind fun found_6 => 
  (idxV dungeon (D.int 0)).bind fun x_7 => (idxV x_7 s.1).bind fun x_8 => (idxV x_8 (D.int 0)).bind fun x_9 => 
  Res.ok (x_9, found_6) else Res.ok (s.1, s.2) : Res (D × List D))).bind fun s_10 => 
  Res.ok (s_10.1, s_10.2)
def v__law_up (dungeon : D) (v : D) : Res (List D) :=
  (Res.ok []).bind fun found_1 => 
  (idxV dungeon (D.int 0)).bind fun x_3 => (lenV x_3).bind fun x_4 => (rng1V x_4).bind fun l_2 => (foldV (vb__law_up_1 dungeon) l_2 (v, found_1)).bind fun s_11 => 
  Res.ok s_11.2
def vc__law_branch_1 (dungeon : D) (v : D) (d : D) : Res (Option D) :=
  (v__law_up dungeon d).bind fun x_4 => (memV false v (D.lst x_4)).bind fun b_5 => if b_5 = true then Res.ok (some d) else Res.ok none
def v__law_branch (dungeon : D) (v : D) : Res (List D) :=
  (idxV dungeon (D.int 0)).bind fun x_2 => (lenV x_2).bind fun x_3 => (rng1V x_3).bind fun l_1 => (mapV (vc__law_branch_1 dungeon v) l_1).bind fun l_6 => Res.ok l_6
def vc__law_stumps_2 (parent : D) (way : D) (d : D) : Res (Option D) :=
  (memV true parent d).bind fun b_7 => (if b_7 = true then Res.ok true else (neV way (D.str "open")).bind fun b_8 => Res.ok b_8).bind fun x_9 => if x_9 = true then Res.ok (some d) else Res.ok none
def vc__law_stumps_3 (u : D) (parent : D) (d : D) : Res (Option D) :=
  (memV false parent d).bind fun b_12 => if b_12 = true then (addV d (D.tup [u])).bind fun x_13 => Res.ok (some x_13) else Res.ok none
def vb__law_stumps_1 (dungeon : D) (d : D) (s : D) : Res (D) :=
  (idxV dungeon (D.int 0)).bind fun x_3 => (idxV x_3 d).bind fun x_4 => (un3 x_4).bind fun t_5 => 
  (itemsV s).bind fun l_6 => (mapV (vc__law_stumps_2 t_5.1 t_5.2.1) l_6).bind fun l_10 => 
  (itemsV s).bind fun l_11 => (mapV (vc__law_stumps_3 d t_5.1) l_11).bind fun l_14 => (addV (D.lst l_10) (D.lst l_14)).bind fun x_15 => 
  Res.ok x_15
def v__law_stumps (dungeon : D) (v : D) : Res (D) :=
  (Res.ok (D.lst [(D.tup [v])])).bind fun found_1 => 
  (v__law_branch dungeon v).bind fun x_2 => (foldV (vb__law_stumps_1 dungeon) (cutD x_2 (some 1) none) found_1).bind fun found_16 => 
  Res.ok found_16
def vc__law_net_1 (small : D) (d : D) : Res (Option D) :=
  (idxV small d).bind fun x_2 => Res.ok (some x_2)
def vc__law_net_2 (dungeon : D) (d : D) : Res (Option D) :=
  (idxV dungeon (D.int 0)).bind fun x_6 => (idxV x_6 d).bind fun x_7 => (idxV x_7 (D.int 1)).bind fun x_8 => (eqV x_8 (D.str "lock")).bind fun b_9 => if b_9 = true then Res.ok (some d) else Res.ok none
def v__law_net (dungeon : D) (small : D) (part : D) : Res (D) :=
  (itemsV part).bind fun l_1 => (mapV (vc__law_net_1 small) l_1).bind fun l_3 => (sumV (D.lst l_3)).bind fun x_4 => (itemsV part).bind fun l_5 => (mapV (vc__law_net_2 dungeon) l_5).bind fun l_10 => (lenV (D.lst l_10)).bind fun x_11 => (subV x_4 x_11).bind fun x_12 => Res.ok x_12
def v__law_least (values : D) : Res (D) :=
  (neV values (D.lst [])).bind fun b_1 => (if b_1 = true then (minV values).bind fun x_2 => Res.ok x_2 else Res.ok D.non).bind fun x_3 => Res.ok x_3
def vc__law_row_1 (dungeon : D) (v : D) (d : D) : Res (Option D) :=
  (idxV dungeon (D.int 0)).bind fun x_5 => (idxV x_5 d).bind fun x_6 => (idxV x_6 (D.int 1)).bind fun x_7 => (eqV x_7 (D.str "bar")).bind fun b_8 => (if b_8 = true then (neV d v).bind fun b_9 => Res.ok b_9 else Res.ok false).bind fun x_10 => if x_10 = true then Res.ok (some d) else Res.ok none
def vc__law_row_3 (lot : D) (d : D) : Res (Option D) :=
  (memV false d lot).bind fun b_20 => if b_20 = true then Res.ok (some d) else Res.ok none
def vc__law_row_4 (dungeon : D) (lot : D) (d : D) : Res (Option D) :=
  (idxV dungeon (D.int 0)).bind fun x_30 => (idxV x_30 d).bind fun x_31 => (idxV x_31 (D.int 0)).bind fun x_32 => (memV false x_32 lot).bind fun b_33 => if b_33 = true then Res.ok (some d) else Res.ok none
def vc__law_row_5 (big : D) (d : D) : Res (Option D) :=
  (eqV d big).bind fun b_36 => if b_36 = true then Res.ok (some d) else Res.ok none
def vc__law_row_6 (lot : D) (d : D) : Res (Option D) :=
  (memV true d lot).bind fun b_41 => if b_41 = true then Res.ok (some d) else Res.ok none
def vb__law_row_2 (dungeon : D) (big : D) (small : D) (branch : D) (bars : D) (d : D) (s : List (List D)) : Res (List (List D)) :=
  (v__law_net dungeon small d).bind fun x_14 => (lenV d).bind fun x_15 => (lenV branch).bind fun x_16 => (ltV x_15 x_16).bind fun b_17 => 
  (memV true big d).bind fun b_18 => (if b_18 = true then (itemsV bars).bind fun l_19 => (mapV (vc__law_row_3 d) l_19).bind fun l_21 => (eqV (D.lst l_21) (D.lst [])).bind fun b_22 => Res.ok b_22 else Res.ok false).bind fun x_23 => ((if x_23 = true then (nappV s (D.int 0) x_14).bind fun nets_24 => 
  (intV (D.bl b_17)).bind fun x_25 => (repV [x_14] x_25).bind fun x_26 => (nextV nets_24 (D.int 1) (D.lst x_26)).bind fun nets_27 => 
  Res.ok nets_27 else Res.ok s : Res (List (List D)))).bind fun nets_28 => 
  (itemsV bars).bind fun l_29 => (mapV (vc__law_row_4 dungeon d) l_29).bind fun l_34 => (itemsV branch).bind fun l_35 => (mapV (vc__law_row_5 big) l_35).bind fun l_37 => (catV l_34 (D.lst l_37)).bind fun x_38 => 
  (isnotV big D.non).bind fun b_39 => (if b_39 = true then (itemsV (D.lst x_38)).bind fun l_40 => (mapV (vc__law_row_6 d) l_40).bind fun l_42 => (eqV (D.lst l_42) (D.lst [])).bind fun b_43 => Res.ok b_43 else Res.ok false).bind fun x_44 => ((if x_44 = true then (nappV nets_28 (D.int 2) x_14).bind fun nets_45 => 
  (intV (D.bl b_17)).bind fun x_46 => (repV [x_14] x_46).bind fun x_47 => (nextV nets_45 (D.int 3) (D.lst x_47)).bind fun nets_48 => 
  Res.ok nets_48 else Res.ok nets_28 : Res (List (List D)))).bind fun nets_49 => 
  Res.ok nets_49
def vc__law_row_7 (d : D) : Res (Option D) :=
  (v__law_least d).bind fun x_52 => Res.ok (some x_52)
def v__law_row (dungeon : D) (laid : D) (v : D) : Res (D) :=
  (v__law_branch dungeon v).bind fun x_1 => ((Res.ok [[], [], [], []] : Res (List (List D)))).bind fun nets_2 => (un2 laid).bind fun t_3 => 
  (itemsV (D.lst x_1)).bind fun l_4 => (mapV (vc__law_row_1 dungeon v) l_4).bind fun l_11 => 
  (v__law_stumps dungeon v).bind fun x_12 => (itemsV x_12).bind fun l_13 => (foldV (vb__law_row_2 dungeon t_3.1 t_3.2 (D.lst x_1) (D.lst l_11)) l_13 nets_2).bind fun nets_50 => 
  (itemsV (.lst (nets_50.map D.lst))).bind fun l_51 => (mapV (vc__law_row_7) l_51).bind fun l_53 => (tupV (D.lst l_53)).bind fun x_54 => Res.ok x_54
def vc__law_table_1 (dungeon : D) (laid : D) (d : D) : Res (Option D) :=
  (v__law_row dungeon laid d).bind fun x_4 => Res.ok (some x_4)
def v__law_table (dungeon : D) (laid : D) : Res (D) :=
  (idxV dungeon (D.int 0)).bind fun x_2 => (lenV x_2).bind fun x_3 => (rng1V x_3).bind fun l_1 => (mapV (vc__law_table_1 dungeon laid) l_1).bind fun l_5 => (tupV (D.lst l_5)).bind fun x_6 => Res.ok x_6
/-! the way -/
theorem foldV_append {S : Type} {f : D → S → Res S} : ∀ (xs ys : List D) (s : S), foldV f (xs ++ ys) s = (foldV f xs s).bind (foldV f ys)
  | [], ys, s => rfl
  | x :: xs, ys, s => by
    rw [List.cons_append, foldV, foldV]
    cases f x s with
    | bad => rfl
    | ok a => rw [okb, okb, foldV_append xs ys a]
theorem ups_next {rs : List Room} (g : Rms rs) : ∀ (n v : Nat), v ≤ n → ∀ (i u : Nat), (ups rs v)[i]? = some u → (ups rs v)[i + 1]? = parOf rs u
  | n, v, hn, i, u, h => by
    cases hp : parOf rs v with
    | none =>
      rw [ups_none g hp] at h ⊢
      cases i with
      | zero =>
        have : v = u := by simpa using h
        subst this
        rw [hp]; rfl
      | succ i => simp at h
    | some p =>
      have hlt := g.par_lt hp
      rw [ups_some g hp] at h ⊢
      cases i with
      | zero =>
        have : v = u := by simpa using h
        subst this
        rw [hp]
        show (ups rs p)[0]? = some p
        rw [ups_eq g]
        rfl
      | succ i =>
        cases n with
        | zero => omega
        | succ n =>
          show (ups rs p)[i + 1]? = parOf rs u
          exact ups_next g n p (by omega) i u (by simpa using h)
theorem up_spec {rs : List Room} {k : Nat} (g : Rms rs) (hn : rs.length ≤ 1000) {v : Nat} (hv : v < rs.length) : v__law_up (dunD rs k) (nD v) = .ok ((ups rs v).map nD) := by
  unfold v__law_up
  rw [okb, dun0, okb, len_rooms, okb, show rng1V (nD rs.length) = _ from rng1_nat (by omega), okb]
  obtain ⟨s', e, es⟩ := foldV_ix (f := vb__law_up_1 (dunD rs k)) (P := fun i s => s = (oD ((ups rs v)[i]?), ((ups rs v).take i).map nD)) (ds := (List.range rs.length).map nD) (k := 0) (fun i d s hd hs => by
    subst hs
    rw [Nat.zero_add]
    unfold vb__law_up_1
    dsimp only
    rw [isnot_non, okb]
    cases hu : (ups rs v)[i]? with
    | none =>
      rw [if_neg (by simp [oD, isNonD]), okb]
      refine ⟨_, rfl, ?_⟩
      have hl := List.getElem?_eq_none_iff.mp hu
      rw [List.getElem?_eq_none (by omega), List.take_of_length_le (by omega), List.take_of_length_le (by omega)]
    | some u =>
      have hul := ups_lt g hv u (List.mem_of_getElem? hu)
      have hil := (List.getElem?_eq_some_iff.mp hu).1
      have hll := ups_len g hv
      rw [if_pos (by simp [oD, isNonD])]
      refine ⟨_, ?_, rfl⟩
      show ((appV _ (nD u)).bind _).bind _ = _
      rw [app_nat (by rw [List.length_take]; omega), okb, dun0, okb]
      show ((idxV _ (nD u)).bind _).bind _ = _
      rw [ix_room hul, okb, rD0, okb, okb, ups_next g v v (Nat.le_refl _) i u hu, List.take_succ, hu]
      rfl) _ rfl
  have e0 : (nD v, ([] : List D)) = (oD ((ups rs v)[0]?), ((ups rs v).take 0).map nD) := by
    rw [ups_eq g]; rfl
  rw [e0, e, okb, es, List.length_map, List.length_range, Nat.zero_add, List.take_of_length_le (ups_len g hv)]
/-- v and what hangs on it -/
def branchL (rs : List Room) (v : Nat) : List Nat := lot rs.length fun u => decide (v ∈ ups rs u)
def tailTo (rs : List Room) (v m : Nat) : List Nat := lot m fun u => !decide (u = v) && decide (v ∈ ups rs u)
theorem branch_spec {rs : List Room} {k : Nat} (g : Rms rs) (hn : rs.length ≤ 1000) {v : Nat} : v__law_branch (dunD rs k) (nD v) = .ok ((branchL rs v).map nD) := by
  unfold v__law_branch
  rw [dun0, okb, len_rooms, okb, show rng1V (nD rs.length) = _ from rng1_nat (by omega), okb, mapV_if (fun u => decide (v ∈ ups rs u)) nD (fun u hu => ?_) (by rw [List.length_range]; omega), okb]
  · rfl
  · have hu := List.mem_range.mp hu
    unfold vc__law_branch_1
    rw [up_spec g hn hu, okb, mem_lstN, okb, Bool.false_xor]
    cases decide (v ∈ ups rs u) <;> rfl
theorem branch_tail {rs : List Room} (g : Rms rs) {v : Nat} (hv : v < rs.length) : branchL rs v = v :: tailTo rs v rs.length := by
  refine sorted_ext lot_sorted (List.pairwise_cons.mpr ⟨fun u hu => ?_, lot_sorted⟩) fun u => ?_
  · unfold tailTo at hu
    rw [lot_mem] at hu
    simp only [Bool.and_eq_true, Bool.not_eq_true', decide_eq_false_iff_not, decide_eq_true_eq] at hu
    have := ups_le g u u (Nat.le_refl _) v hu.2.2
    omega
  · unfold branchL tailTo
    rw [lot_mem, List.mem_cons, lot_mem]
    simp only [Bool.and_eq_true, Bool.not_eq_true', decide_eq_false_iff_not, decide_eq_true_eq]
    constructor
    · rintro ⟨h1, h2⟩
      by_cases h : u = v
      · exact .inl h
      · exact .inr ⟨h1, h, h2⟩
    · rintro (h | ⟨h1, h2, h3⟩)
      · subst h; exact ⟨hv, ups_self g u⟩
      · exact ⟨h1, h3⟩
/-! stumps, one room after another -/
def stepS (rs : List Room) (u : Nat) (ls : List (List Nat)) : List (List Nat) :=
  ls.filter (fun l => !((parOf rs u).any fun p => decide (p ∈ l)) || !decide (wayOf rs u = .opn)) ++ (ls.filter fun l => (parOf rs u).any fun p => decide (p ∈ l)).map (· ++ [u])
def stm (rs : List Room) (v : Nat) : Nat → List (List Nat)
  | 0 => [[v]]
  | m + 1 => if (!decide (m = v) && decide (v ∈ ups rs m)) = true then stepS rs m (stm rs v m) else stm rs v m
theorem stepS_len (rs : List Room) (u : Nat) (ls : List (List Nat)) : (stepS rs u ls).length ≤ 2 * ls.length := by
  unfold stepS
  have h1 := List.length_filter_le (fun l : List Nat => !((parOf rs u).any fun p => decide (p ∈ l)) || !decide (wayOf rs u = .opn)) ls
  have h2 := List.length_filter_le (fun l : List Nat => (parOf rs u).any fun p => decide (p ∈ l)) ls
  rw [List.length_append, List.length_map]
  omega
theorem stm_len (rs : List Room) (v : Nat) : ∀ m, (stm rs v m).length ≤ 2 ^ m
  | 0 => Nat.le_refl _
  | m + 1 => by
    have := stm_len rs v m
    have := stepS_len rs m (stm rs v m)
    unfold stm
    rw [Nat.pow_succ]
    split <;> omega
structure Sm (rs : List Room) (v m : Nat) (l : List Nat) : Prop where
  asc : l.Pairwise (· < ·)
  top : v ∈ l
  sub : ∀ x ∈ l, x = v ∨ (x < m ∧ v ∈ ups rs x)
  up : ∀ x p, x ∈ l → x ≠ v → parOf rs x = some p → p ∈ l
  down : ∀ x p, x < m → v ∈ ups rs x → x ≠ v → parOf rs x = some p → p ∈ l → wayOf rs x = .opn → x ∈ l
theorem stm_iff {rs : List Room} (g : Rms rs) {v : Nat} : ∀ m, m ≤ rs.length → ∀ l, l ∈ stm rs v m ↔ Sm rs v m l
  | 0, _, l => by
    show l ∈ [[v]] ↔ _
    rw [List.mem_singleton]
    constructor
    · rintro rfl
      exact ⟨by simp, by simp, fun x hx => .inl (by simpa using hx), fun x p hx hne => absurd (by simpa using hx) hne, fun x p hx => by omega⟩
    · intro s
      refine sorted_ext s.asc (by simp) fun x => ?_
      rw [List.mem_singleton]
      constructor
      · intro hx
        rcases s.sub x hx with z | z
        · exact z
        · omega
      · rintro rfl; exact s.top
  | m + 1, hm, l => by
    have ih := stm_iff g (v := v) m (by omega)
    by_cases hc : (!decide (m = v) && decide (v ∈ ups rs m)) = true
    · have hc' := hc
      simp only [Bool.and_eq_true, Bool.not_eq_true', decide_eq_false_iff_not, decide_eq_true_eq] at hc'
      obtain ⟨hmv, hvm⟩ := hc'
      have hvlt : v < m := by have := ups_le g m m (Nat.le_refl _) v hvm; omega
      obtain ⟨p, hp, hpm, _⟩ := g.par (v := m) (by omega) (by omega)
      unfold stm
      rw [if_pos hc]
      unfold stepS
      rw [List.mem_append, List.mem_filter, List.mem_map, hp]
      simp only [Option.any_some, List.mem_filter, decide_eq_true_eq, Bool.or_eq_true, Bool.not_eq_true', decide_eq_false_iff_not]
      constructor
      · rintro (⟨hl, ho⟩ | ⟨l', ⟨hl, hpl⟩, rfl⟩)
        · have s := (ih l).mp hl
          have hml : m ∉ l := fun z => by rcases s.sub m z with y | y <;> omega
          refine ⟨s.asc, s.top, fun x hx => (s.sub x hx).imp id fun z => ⟨by omega, z.2⟩, s.up, fun x q hx h1 h2 h3 h4 h5 => ?_⟩
          by_cases hxm : x = m
          · subst hxm
            rw [hp] at h3
            cases h3
            rcases ho with z | z
            · exact absurd h4 z
            · exact absurd h5 z
          · exact s.down x q (by omega) h1 h2 h3 h4 h5
        · have s := (ih l').mp hl
          have hlt : ∀ x ∈ l', x < m := fun x hx => by rcases s.sub x hx with y | y <;> omega
          refine ⟨List.pairwise_append.mpr ⟨s.asc, by simp, fun a ha b hb => ?_⟩, List.mem_append_left _ s.top, fun x hx => ?_, fun x q hx hne h3 => ?_, fun x q hx h1 h2 h3 h4 h5 => ?_⟩
          · have : b = m := by simpa using hb
            subst this; exact hlt a ha
          · rcases List.mem_append.mp hx with z | z
            · exact (s.sub x z).imp id fun z => ⟨by omega, z.2⟩
            · have : x = m := by simpa using z
              subst this; exact .inr ⟨by omega, hvm⟩
          · rcases List.mem_append.mp hx with z | z
            · exact List.mem_append_left _ (s.up x q z hne h3)
            · have : x = m := by simpa using z
              subst this
              rw [hp] at h3; cases h3
              exact List.mem_append_left _ hpl
          · by_cases hxm : x = m
            · subst hxm; simp
            · have hq := g.par_lt h3
              rcases List.mem_append.mp h4 with z | z
              · exact List.mem_append_left _ (s.down x q (by omega) h1 h2 h3 z h5)
              · have : q = m := by simpa using z
                omega
      · intro s
        by_cases hml : m ∈ l
        · refine .inr ⟨l.filter fun x => !decide (x = m), ⟨(ih _).mpr ?_, ?_⟩, ?_⟩
          · have mem : ∀ x, x ∈ l.filter (fun x => !decide (x = m)) ↔ x ∈ l ∧ x ≠ m := fun x => by rw [List.mem_filter]; simp
            refine ⟨s.asc.filter _, (mem v).mpr ⟨s.top, by omega⟩, fun x hx => ?_, fun x q hx hne h3 => ?_, fun x q hx h1 h2 h3 h4 h5 => ?_⟩
            · have hx := (mem x).mp hx
              exact (s.sub x hx.1).imp id fun z => ⟨by omega, z.2⟩
            · have hx := (mem x).mp hx
              have hq := g.par_lt h3
              refine (mem q).mpr ⟨s.up x q hx.1 hne h3, ?_⟩
              rcases s.sub x hx.1 with z | z <;> omega
            · exact (mem x).mpr ⟨s.down x q (by omega) h1 h2 h3 ((mem q).mp h4).1 h5, by omega⟩
          · rw [List.mem_filter]
            exact ⟨s.up m p hml hmv hp, by simp; omega⟩
          · refine (sorted_ext (List.pairwise_append.mpr ⟨s.asc.filter _, by simp, fun a ha b hb => ?_⟩) s.asc fun x => ?_)
            · have : b = m := by simpa using hb
              subst this
              have ha := List.mem_filter.mp ha
              have hne : a ≠ b := by simpa using ha.2
              rcases s.sub a ha.1 with z | z <;> omega
            · rw [List.mem_append, List.mem_filter]
              by_cases hx : x = m
              · subst hx; simp [hml]
              · simp [hx]
        · refine .inl ⟨(ih l).mpr ⟨s.asc, s.top, fun x hx => (s.sub x hx).imp id fun z => ⟨?_, z.2⟩, s.up, fun x q hx => s.down x q (by omega)⟩, ?_⟩
          · have : x ≠ m := fun y => hml (by rw [← y]; exact hx)
            omega
          · by_cases hpl : p ∈ l
            · right
              intro ho
              exact hml (s.down m p (by omega) hvm hmv hp hpl ho)
            · exact .inl hpl
    · unfold stm
      rw [if_neg hc, ih l]
      have hc' : ∀ x, x < m + 1 → v ∈ ups rs x → x ≠ v → x < m := fun x h1 h2 h3 => by
        by_cases hxm : x = m
        · subst hxm
          exact absurd (by simp [h2, h3]) hc
        · omega
      constructor
      · exact fun s => ⟨s.asc, s.top, fun x hx => (s.sub x hx).imp id fun z => ⟨by omega, z.2⟩, s.up, fun x q hx h1 h2 => s.down x q (hc' x hx h1 h2) h1 h2⟩
      · refine fun s => ⟨s.asc, s.top, fun x hx => ?_, s.up, fun x q hx => s.down x q (by omega)⟩
        rcases s.sub x hx with z | z
        · exact .inl z
        · by_cases hxv : x = v
          · exact .inl hxv
          · exact .inr ⟨hc' x z.1 z.2 hxv, z.2⟩
theorem step_spec {rs : List Room} {k u : Nat} (hu : u < rs.length) {ls : List (List Nat)} (hz : ls.length ≤ 100000) (hl : ∀ l ∈ ls, l.length ≤ 1000) : vb__law_stumps_1 (dunD rs k) (nD u) (.lst (ls.map partD)) = .ok (.lst ((stepS rs u ls).map partD)) := by
  unfold vb__law_stumps_1
  rw [dun0, okb, ix_room hu, okb, rDu, okb]
  dsimp only
  rw [itemsV_lst, okb]
  have e1 : mapV (vc__law_stumps_2 (oD (parOf rs u)) (wayOf rs u).d) (ls.map partD) = .ok ((ls.filter fun l => !((parOf rs u).any fun p => decide (p ∈ l)) || !decide (wayOf rs u = .opn)).map partD) := by
    refine mapV_if _ _ (fun l _ => ?_) (by omega)
    unfold vc__law_stumps_2
    show (memV true (oD (parOf rs u)) (.tup (l.map nD))).bind _ = _
    rw [mem_tupO, okb, Bool.true_xor]
    generalize ((parOf rs u).any fun p => decide (p ∈ l)) = a
    cases a with
    | false => rfl
    | true =>
      rw [if_neg (by simp), way_nopn, okb, okb]
      cases decide (wayOf rs u = .opn) <;> rfl
  have e2 : mapV (vc__law_stumps_3 (nD u) (oD (parOf rs u))) (ls.map partD) = .ok ((ls.filter fun l => (parOf rs u).any fun p => decide (p ∈ l)).map fun l => partD (l ++ [u])) := by
    refine mapV_if _ _ (fun l hl2 => ?_) (by omega)
    unfold vc__law_stumps_3
    show (memV false (oD (parOf rs u)) (.tup (l.map nD))).bind _ = _
    rw [mem_tupO, okb, Bool.false_xor]
    generalize ((parOf rs u).any fun p => decide (p ∈ l)) = a
    cases a with
    | false => rfl
    | true =>
      rw [if_pos rfl, if_pos rfl]
      show (addV (.tup (l.map nD)) (.tup [nD u])).bind _ = _
      rw [addT, sz_ok (by have := hl l hl2; rw [List.length_map, List.length_singleton]; omega)]
      show Res.ok (some (D.tup (l.map nD ++ [nD u]))) = _
      unfold partD
      rw [List.map_append]
      rfl
  have h1 := List.length_filter_le (fun l : List Nat => !((parOf rs u).any fun p => decide (p ∈ l)) || !decide (wayOf rs u = .opn)) ls
  have h2 := List.length_filter_le (fun l : List Nat => (parOf rs u).any fun p => decide (p ∈ l)) ls
  rw [e1, okb, okb, e2, okb, addV_lst, cat_ok (by rw [List.length_map, List.length_map]; omega)]
  show Res.ok _ = Res.ok _
  congr 2
  unfold stepS
  rw [List.map_append, List.map_map]
  rfl
theorem sm_len {rs : List Room} {v m : Nat} {l : List Nat} (hv : v < rs.length) (hm : m ≤ rs.length) (s : Sm rs v m l) : l.length ≤ rs.length :=
  nodup_len (sorted_nodup s.asc) fun x hx => by rcases s.sub x hx with z | z <;> omega
theorem stumps_walk {rs : List Room} {k : Nat} (g : Rms rs) (hn : rs.length ≤ 11) {v : Nat} (hv : v < rs.length) : ∀ m, m ≤ rs.length → foldV (vb__law_stumps_1 (dunD rs k)) ((tailTo rs v m).map nD) (.lst [.tup [nD v]]) = .ok (.lst ((stm rs v m).map partD))
  | 0, _ => rfl
  | m + 1, hm => by
    have ih := stumps_walk (k := k) g hn hv m (by omega)
    have et : tailTo rs v (m + 1) = tailTo rs v m ++ (if (!decide (m = v) && decide (v ∈ ups rs m)) = true then [m] else []) := by
      unfold tailTo; rw [lot_succ]
    have es : stm rs v (m + 1) = if (!decide (m = v) && decide (v ∈ ups rs m)) = true then stepS rs m (stm rs v m) else stm rs v m := rfl
    rw [et, List.map_append, foldV_append, ih, okb, es]
    by_cases hc : (!decide (m = v) && decide (v ∈ ups rs m)) = true
    · rw [if_pos hc, if_pos hc]
      have h1 := stm_len rs v m
      have h2 : 2 ^ m ≤ 2 ^ 11 := Nat.pow_le_pow_right (by omega) (by omega)
      show foldV _ [nD m] _ = _
      rw [foldV, step_spec (by omega) (by omega) (fun l hl => by have := sm_len hv (by omega) ((stm_iff g m (by omega) l).mp hl); omega), okb]
      rfl
    · rw [if_neg hc, if_neg hc]
      rfl
theorem stumps_spec {rs : List Room} {k : Nat} (g : Rms rs) (hn : rs.length ≤ 11) {v : Nat} (hv : v < rs.length) : v__law_stumps (dunD rs k) (nD v) = .ok (.lst ((stm rs v rs.length).map partD)) := by
  unfold v__law_stumps
  rw [okb, branch_spec g (by omega), okb, branch_tail g hv, List.map_cons, cut_tail, List.tail_cons, stumps_walk g hn hv _ (Nat.le_refl _), okb]
/-! nets, rows -/
theorem lnet_spec {rs : List Room} {k : Nat} {small : List Nat} (hs : small.length = rs.length) {l : List Nat} (hl : ∀ v ∈ l, v < rs.length) (hz : l.length ≤ 1000) : v__law_net (dunD rs k) (.tup (small.map nD)) (partD l) = .ok (.int ((l.map (wI rs small)).sum)) := by
  unfold v__law_net partD
  have ews : ∀ v, v < rs.length → idxV (.tup (small.map nD)) (nD v) = .ok (nD ((small[v]?).getD 0)) := fun v hv => by
    refine ix_tup ?_
    rw [List.getElem?_map, List.getElem?_eq_getElem (by omega)]
    rfl
  have e1 : mapV (vc__law_net_1 (.tup (small.map nD))) (l.map nD) = .ok ((l.map fun v => (((small[v]?).getD 0 : Nat) : Int)).map D.int) := by
    rw [List.map_map]
    refine mapV_map _ (fun v hv => ?_) (by omega)
    unfold vc__law_net_1
    rw [ews v (hl v hv), okb]
    rfl
  have e2 : mapV (vc__law_net_2 (dunD rs k)) (l.map nD) = .ok ((l.filter fun v => decide (wayOf rs v = .lck)).map nD) := by
    refine mapV_if _ _ (fun v hv => ?_) (by omega)
    unfold vc__law_net_2
    rw [dun0, okb, ix_room (hl v hv), okb, rD1, okb, way_lck, okb]
    cases decide (wayOf rs v = .lck) <;> rfl
  rw [itemsV_tup, okb, e1, okb, sumI, okb, okb, e2, okb, len_lstV, okb, subI, okb]
  congr 2
  rw [List.length_map]
  clear e1 e2 hz
  induction l with
  | nil => rfl
  | cons v l ih =>
    have ih := ih fun x hx => hl x (List.mem_cons_of_mem _ hx)
    rw [List.map_cons, List.sum_cons, List.map_cons, List.sum_cons, ← ih, List.filter_cons]
    unfold wI
    by_cases h : wayOf rs v = .lck
    · rw [if_pos (by simp [h]), if_pos h, List.length_cons]
      omega
    · rw [if_neg (by simp [h]), if_neg h]
      omega
/-- plain: neither the big key nor bars -/
def barsL (rs : List Room) (v : Nat) : List Nat := (branchL rs v).filter fun u => decide (wayOf rs u = .bar) && !decide (u = v)
def c0 (rs : List Room) (big : Option Nat) (v : Nat) (l : List Nat) : Bool := !(big.any fun b => decide (b ∈ l)) && ((barsL rs v).filter fun u => decide (u ∈ l)).isEmpty
def dueOf (rs : List Room) (big : Option Nat) (v : Nat) (l : List Nat) : List Nat := ((barsL rs v).filter fun u => (parOf rs u).any fun p => decide (p ∈ l)) ++ (branchL rs v).filter fun u => decide (big = some u)
def c2 (rs : List Room) (big : Option Nat) (v : Nat) (l : List Nat) : Bool := big.isSome && ((dueOf rs big v l).filter fun u => !decide (u ∈ l)).isEmpty
def lackB (rs : List Room) (v : Nat) (l : List Nat) : Bool := decide (l.length < (branchL rs v).length)
def netD (rs : List Room) (small : List Nat) (l : List Nat) : D := .int ((l.map (wI rs small)).sum)
def nets (rs : List Room) (big : Option Nat) (small : List Nat) (v : Nat) (ls : List (List Nat)) : List (List D) :=
  [(ls.filter (c0 rs big v)).map (netD rs small), (ls.filter fun l => c0 rs big v l && lackB rs v l).map (netD rs small), (ls.filter (c2 rs big v)).map (netD rs small), (ls.filter fun l => c2 rs big v l && lackB rs v l).map (netD rs small)]
theorem rep_bool (d : D) (b : Bool) : repV [d] (.int (if b = true then 1 else 0)) = .ok (if b = true then [d] else []) := by
  cases b <;> rfl
theorem int_bool (b : Bool) : intV (.bl b) = .ok (.int (if b = true then 1 else 0)) := by cases b <;> rfl
theorem next_1 {a b c d : List D} {e : List D} (h : b.length + e.length ≤ 1000000) : nextV [a, b, c, d] (.int 1) (.lst e) = .ok [a, b ++ e, c, d] := by
  show ((extV b (.lst e)).bind _) = _
  unfold extV
  dsimp only
  rw [sz_ok h]
  rfl
theorem next_3 {a b c d : List D} {e : List D} (h : d.length + e.length ≤ 1000000) : nextV [a, b, c, d] (.int 3) (.lst e) = .ok [a, b, c, d ++ e] := by
  show ((extV d (.lst e)).bind _) = _
  unfold extV
  dsimp only
  rw [sz_ok h]
  rfl
theorem napp_0 {a b c d : List D} {x : D} (h : a.length ≤ 1000000) : nappV [a, b, c, d] (.int 0) x = .ok [a ++ [x], b, c, d] := by
  show gd (decide (a.length < sizeLine)) _ = _
  rw [sz_lt h]
  rfl
theorem napp_2 {a b c d : List D} {x : D} (h : c.length ≤ 1000000) : nappV [a, b, c, d] (.int 2) x = .ok [a, b, c ++ [x], d] := by
  show gd (decide (c.length < sizeLine)) _ = _
  rw [sz_lt h]
  rfl
theorem branch_len {rs : List Room} {v : Nat} : (branchL rs v).length ≤ rs.length := lot_len
theorem bars_len {rs : List Room} {v : Nat} : (barsL rs v).length ≤ rs.length := Nat.le_trans (List.length_filter_le _ _) branch_len
theorem row_turn {rs : List Room} {k : Nat} {big : Option Nat} {small : List Nat} (hn : rs.length ≤ 11) (hs : small.length = rs.length) {v : Nat} {l : List Nat} (hl : ∀ x ∈ l, x < rs.length) (hz : l.length ≤ 11) {A B C E : List D}
    (hA : A.length ≤ 900000) (hB : B.length ≤ 900000) (hC : C.length ≤ 900000) (hE : E.length ≤ 900000) :
    vb__law_row_2 (dunD rs k) (oD big) (.tup (small.map nD)) (.lst ((branchL rs v).map nD)) (.lst ((barsL rs v).map nD)) (partD l) [A, B, C, E] =
      .ok [A ++ (if c0 rs big v l = true then [netD rs small l] else []), B ++ (if (c0 rs big v l && lackB rs v l) = true then [netD rs small l] else []), C ++ (if c2 rs big v l = true then [netD rs small l] else []), E ++ (if (c2 rs big v l && lackB rs v l) = true then [netD rs small l] else [])] := by
  have hbl := bars_len (rs := rs) (v := v)
  have hbr := branch_len (rs := rs) (v := v)
  have m3 : mapV (vc__law_row_3 (partD l)) ((barsL rs v).map nD) = .ok (((barsL rs v).filter fun u => decide (u ∈ l)).map nD) := by
    refine mapV_if _ _ (fun u _ => ?_) (by omega)
    unfold vc__law_row_3 partD
    rw [mem_tupN, okb, Bool.false_xor]
    cases decide (u ∈ l) <;> rfl
  have hbv : ∀ u ∈ branchL rs v, u < rs.length := fun u hu => (lot_mem.mp hu).1
  have hbb : ∀ u ∈ barsL rs v, u < rs.length := fun u hu => hbv u (List.mem_filter.mp hu).1
  have m4 : mapV (vc__law_row_4 (dunD rs k) (partD l)) ((barsL rs v).map nD) = .ok (((barsL rs v).filter fun u => (parOf rs u).any fun p => decide (p ∈ l)).map nD) := by
    refine mapV_if _ _ (fun u hu => ?_) (by omega)
    unfold vc__law_row_4 partD
    rw [dun0, okb, ix_room (hbb u hu), okb, rD0, okb, mem_tupO, okb, Bool.false_xor]
    cases ((parOf rs u).any fun p => decide (p ∈ l)) <;> rfl
  have m5 : mapV (vc__law_row_5 (oD big)) ((branchL rs v).map nD) = .ok (((branchL rs v).filter fun u => decide (big = some u)).map nD) := by
    refine mapV_if _ _ (fun u hu => ?_) (by omega)
    unfold vc__law_row_5
    rw [eq_natO, okb]
    cases decide (big = some u) <;> rfl
  have hf1 := List.length_filter_le (fun u => (parOf rs u).any fun p => decide (p ∈ l)) (barsL rs v)
  have hf2 := List.length_filter_le (fun u => decide (big = some u)) (branchL rs v)
  have m6 : mapV (vc__law_row_6 (partD l)) ((dueOf rs big v l).map nD) = .ok (((dueOf rs big v l).filter fun u => !decide (u ∈ l)).map nD) := by
    refine mapV_if _ _ (fun u _ => ?_) (by unfold dueOf; rw [List.length_append]; omega)
    unfold vc__law_row_6 partD
    rw [mem_tupN, okb, Bool.true_xor]
    cases decide (u ∈ l) <;> rfl
  have md : ∀ xs : List Nat, (xs.map nD).isEmpty = xs.isEmpty := fun xs => by cases xs <;> rfl
  have hlt : ltV (nD l.length) (nD (branchL rs v).length) = .ok (lackB rs v l) := by
    show ltV (.int _) (.int _) = _
    rw [lt_intV]
    congr 1
    unfold lackB
    by_cases h : l.length < (branchL rs v).length
    · rw [decide_eq_true h, decide_eq_true (by omega)]
    · rw [decide_eq_false h, decide_eq_false (by omega)]
  unfold vb__law_row_2
  rw [lnet_spec hs hl (by omega), okb]
  have hl1 : lenV (partD l) = .ok (nD l.length) := by unfold partD; rw [len_tupV, List.length_map]
  have hl2 : lenV (.lst ((branchL rs v).map nD)) = .ok (nD (branchL rs v).length) := by rw [len_lstV, List.length_map]
  rw [hl1, okb, hl2, okb, hlt, okb]
  have hm : memV true (oD big) (partD l) = .ok (!(big.any fun b => decide (b ∈ l))) := by unfold partD; rw [mem_tupO, Bool.true_xor]
  rw [hm, okb]
  have hc0 : (if (!(big.any fun b => decide (b ∈ l))) = true then (itemsV (.lst ((barsL rs v).map nD))).bind fun l_19 => (mapV (vc__law_row_3 (partD l)) l_19).bind fun l_21 => (eqV (D.lst l_21) (D.lst [])).bind fun b_22 => Res.ok b_22 else Res.ok false) = .ok (c0 rs big v l) := by
    unfold c0
    cases (!(big.any fun b => decide (b ∈ l))) with
    | false => rfl
    | true => rw [if_pos rfl, itemsV_lst, okb, m3, okb, eq_nil, okb, md]; rfl
  rw [hc0, okb]
  have hstep0 : ∀ b : Bool, ((if b = true then (nappV [A, B, C, E] (D.int 0) (.int ((l.map (wI rs small)).sum))).bind fun nets_24 =>
      (intV (D.bl (lackB rs v l))).bind fun x_25 => (repV [(.int ((l.map (wI rs small)).sum))] x_25).bind fun x_26 => (nextV nets_24 (D.int 1) (D.lst x_26)).bind fun nets_27 => 
      Res.ok nets_27 else Res.ok [A, B, C, E] : Res (List (List D)))) = .ok [A ++ (if b = true then [netD rs small l] else []), B ++ (if (b && lackB rs v l) = true then [netD rs small l] else []), C, E] := fun b => by
    cases b with
    | false => rw [if_neg (by simp)]; simp
    | true =>
      rw [if_pos rfl, napp_0 (by omega), okb, int_bool, okb, rep_bool, okb, next_1 (by cases lackB rs v l <;> simp <;> omega), okb]
      rfl
  rw [hstep0, okb, itemsV_lst, okb, m4, okb, itemsV_lst, okb, m5, okb, cat_ok (by rw [List.length_map, List.length_map]; omega), okb]
  have hdue : ((barsL rs v).filter fun u => (parOf rs u).any fun p => decide (p ∈ l)).map nD ++ ((branchL rs v).filter fun u => decide (big = some u)).map nD = (dueOf rs big v l).map nD := by unfold dueOf; rw [List.map_append]
  rw [hdue, isnot_non, okb]
  have hc2 : (if (!isNonD (oD big)) = true then (itemsV (.lst ((dueOf rs big v l).map nD))).bind fun l_40 => (mapV (vc__law_row_6 (partD l)) l_40).bind fun l_42 => (eqV (D.lst l_42) (D.lst [])).bind fun b_43 => Res.ok b_43 else Res.ok false) = .ok (c2 rs big v l) := by
    unfold c2
    cases big with
    | none => rfl
    | some b =>
      rw [if_pos (by simp [oD, isNonD]), itemsV_lst, okb, m6, okb, eq_nil, okb, md]; rfl
  rw [hc2, okb]
  generalize hA' : A ++ (if c0 rs big v l = true then [netD rs small l] else []) = A'
  generalize hB' : B ++ (if (c0 rs big v l && lackB rs v l) = true then [netD rs small l] else []) = B'
  have hstep2 : ∀ b : Bool, ((if b = true then (nappV [A', B', C, E] (D.int 2) (.int ((l.map (wI rs small)).sum))).bind fun nets_24 =>
      (intV (D.bl (lackB rs v l))).bind fun x_25 => (repV [(.int ((l.map (wI rs small)).sum))] x_25).bind fun x_26 => (nextV nets_24 (D.int 3) (D.lst x_26)).bind fun nets_27 => 
      Res.ok nets_27 else Res.ok [A', B', C, E] : Res (List (List D)))) = .ok [A', B', C ++ (if b = true then [netD rs small l] else []), E ++ (if (b && lackB rs v l) = true then [netD rs small l] else [])] := fun b => by
    cases b with
    | false => rw [if_neg (by simp)]; simp
    | true =>
      rw [if_pos rfl, napp_2 (by omega), okb, int_bool, okb, rep_bool, okb, next_3 (by cases lackB rs v l <;> simp <;> omega), okb]
      rfl
  rw [hstep2, okb]
theorem rows_walk {rs : List Room} {k : Nat} {big : Option Nat} {small : List Nat} (hn : rs.length ≤ 11) (hs : small.length = rs.length) {v : Nat} : ∀ (ls : List (List Nat)) (A B C E : List D), (∀ l ∈ ls, (∀ x ∈ l, x < rs.length) ∧ l.length ≤ 11) →
    A.length + ls.length ≤ 900000 → B.length + ls.length ≤ 900000 → C.length + ls.length ≤ 900000 → E.length + ls.length ≤ 900000 →
    foldV (vb__law_row_2 (dunD rs k) (oD big) (.tup (small.map nD)) (.lst ((branchL rs v).map nD)) (.lst ((barsL rs v).map nD))) (ls.map partD) [A, B, C, E] =
      .ok [A ++ (ls.filter (c0 rs big v)).map (netD rs small), B ++ (ls.filter fun l => c0 rs big v l && lackB rs v l).map (netD rs small), C ++ (ls.filter (c2 rs big v)).map (netD rs small), E ++ (ls.filter fun l => c2 rs big v l && lackB rs v l).map (netD rs small)]
  | [], A, B, C, E, _, _, _, _, _ => by simp [foldV]
  | l :: ls, A, B, C, E, h, h1, h2, h3, h4 => by
    rw [List.length_cons] at h1 h2 h3 h4
    obtain ⟨hl, hz⟩ := h l List.mem_cons_self
    rw [List.map_cons, foldV, row_turn hn hs hl hz (by omega) (by omega) (by omega) (by omega), okb]
    have w : ∀ (b : Bool) (X : List D), X.length + (ls.length + 1) ≤ 900000 → (X ++ (if b = true then [netD rs small l] else [])).length + ls.length ≤ 900000 := fun b X hX => by
      cases b <;> simp <;> omega
    rw [rows_walk hn hs ls _ _ _ _ (fun x hx => h x (List.mem_cons_of_mem _ hx)) (w _ _ h1) (w _ _ h2) (w _ _ h3) (w _ _ h4)]
    have f : ∀ (p : List Nat → Bool) (X : List D), X ++ (if p l = true then [netD rs small l] else []) ++ (ls.filter p).map (netD rs small) = X ++ ((l :: ls).filter p).map (netD rs small) := fun p X => by
      rw [List.filter_cons]
      cases p l <;> simp
    rw [f (c0 rs big v) A, f (c2 rs big v) C, f (fun l => c0 rs big v l && lackB rs v l) B, f (fun l => c2 rs big v l && lackB rs v l) E]
end Lw

/-! VN: rows by going through are the rows of the table. -/
namespace Lw
open PySem Pf
theorem Sm.ofStump {rs : List Room} {K : Kind} (hK : ∀ u, wayOf rs u = .opn → K.must u = true) {v : Nat} {q : Nat → Bool} (s : Stump rs K v q) : Sm rs v rs.length (lot rs.length q) := by
  refine ⟨lot_sorted, lot_mem.mpr ⟨(s.sub v s.top).1, s.top⟩, fun x hx => .inr (s.sub x (lot_mem.mp hx).2), fun x p hx hne hp => ?_, fun x p hx h1 h2 h3 h4 h5 => ?_⟩
  · have := s.up x p (lot_mem.mp hx).2 hne hp
    exact lot_mem.mpr ⟨(s.sub p this).1, this⟩
  · exact lot_mem.mpr ⟨hx, s.down x p hx h3 (lot_mem.mp h4).2 (hK x h5)⟩
theorem mem_br {rs : List Room} {u v : Nat} : u ∈ branchL rs v ↔ u < rs.length ∧ v ∈ ups rs u := by
  unfold branchL; rw [lot_mem, decide_eq_true_eq]
theorem mem_bars {rs : List Room} {u v : Nat} : u ∈ barsL rs v ↔ u < rs.length ∧ v ∈ ups rs u ∧ wayOf rs u = .bar ∧ u ≠ v := by
  unfold barsL
  rw [List.mem_filter, mem_br]
  simp [and_assoc]
theorem fil_nil {l : List Nat} {p : Nat → Bool} : (l.filter p).isEmpty = true ↔ ∀ u ∈ l, p u = false := by
  rw [List.isEmpty_iff, List.filter_eq_nil_iff]
  constructor
  · intro h u hu; have := h u hu; simpa using this
  · intro h u hu; rw [h u hu]; simp
theorem Sm.in_br {rs : List Room} (g : Rms rs) {v : Nat} (hv : v < rs.length) {l : List Nat} (s : Sm rs v rs.length l) : ∀ x ∈ l, x ∈ branchL rs v := fun x hx => by
  rcases s.sub x hx with z | z
  · subst z; exact mem_br.mpr ⟨hv, ups_self g x⟩
  · exact mem_br.mpr z
theorem c0_iff {rs : List Room} (g : Rms rs) {big : Option Nat} {v : Nat} (hv : v < rs.length) {l : List Nat} (s : Sm rs v rs.length l) : c0 rs big v l = true ↔ Stump rs (kindP rs big) v fun x => decide (x ∈ l) := by
  unfold c0
  rw [Bool.and_eq_true, fil_nil]
  constructor
  · rintro ⟨h1, h2⟩
    refine ⟨decide_eq_true s.top, fun x hx => mem_br.mp (s.in_br g hv x (of_decide_eq_true hx)), fun x p hx hne hp => decide_eq_true (s.up x p (of_decide_eq_true hx) hne hp), fun x p hl hp hx hm => ?_, fun x hx hne => ?_, fun x hx => ?_⟩
    · have hpl := of_decide_eq_true hx
      have hb := mem_br.mp (s.in_br g hv p hpl)
      have hpx := g.par_lt hp
      have hvp := ups_le g p p (Nat.le_refl _) v hb.2
      refine decide_eq_true (s.down x p hl ?_ (by omega) hp hpl (of_decide_eq_true hm))
      rw [ups_some g hp]
      exact List.mem_cons_of_mem _ hb.2
    · have hxl := of_decide_eq_true hx
      have hb := mem_br.mp (s.in_br g hv x hxl)
      show (!decide (wayOf rs x = .bar)) = true
      by_cases hw : wayOf rs x = .bar
      · have := h2 x (mem_bars.mpr ⟨hb.1, hb.2, hw, hne⟩)
        rw [decide_eq_true hxl] at this; cases this
      · rw [decide_eq_false hw]; rfl
    · have hxl := of_decide_eq_true hx
      show (!decide (big = some x)) = true
      by_cases hw : big = some x
      · rw [hw] at h1
        simp [hxl] at h1
      · rw [decide_eq_false hw]; rfl
  · intro t
    refine ⟨?_, fun u hu => ?_⟩
    · cases big with
      | none => rfl
      | some b =>
        show (!decide (b ∈ l)) = true
        by_cases hb : b ∈ l
        · have := t.okk b (decide_eq_true hb)
          have this : (!decide (some b = some b)) = true := this
          simp at this
        · rw [decide_eq_false hb]; rfl
    · obtain ⟨_, _, hw, hne⟩ := mem_bars.mp hu
      by_cases hul : u ∈ l
      · have := t.nob u (decide_eq_true hul) hne
        have this : (!decide (wayOf rs u = .bar)) = true := this
        rw [decide_eq_true hw] at this; cases this
      · exact decide_eq_false hul
theorem Sm.chain {rs : List Room} (g : Rms rs) {v : Nat} {l : List Nat} {m : Nat} (s : Sm rs v m l) : ∀ (n x : Nat), x ≤ n → x ∈ l → ∀ u ∈ ups rs x, v ∈ ups rs u → u ∈ l
  | n, x, hn, hx, u, hu, hv => by
    cases hp : parOf rs x with
    | none =>
      rw [ups_none g hp] at hu
      have : u = x := by simpa using hu
      subst this
      exact hx
    | some p =>
      rw [ups_some g hp] at hu
      rcases List.mem_cons.mp hu with z | z
      · subst z; exact hx
      · have hlt := g.par_lt hp
        have hne : x ≠ v := fun e => by
          subst e
          have h1 := ups_le g u u (Nat.le_refl _) x hv
          have h2 := ups_le g p p (Nat.le_refl _) u z
          omega
        cases n with
        | zero => omega
        | succ n => exact Sm.chain g s n p (by omega) (s.up x p hx hne hp) u z hv
theorem mem_due {rs : List Room} {big : Option Nat} {v : Nat} {l : List Nat} {u : Nat} : u ∈ dueOf rs big v l ↔ (u ∈ barsL rs v ∧ ∃ p, parOf rs u = some p ∧ p ∈ l) ∨ (u ∈ branchL rs v ∧ big = some u) := by
  unfold dueOf
  rw [List.mem_append, List.mem_filter, List.mem_filter, decide_eq_true_eq, Option.any_eq_true]
  simp
theorem c2_iff {rs : List Room} (g : Rms rs) {big : Option Nat} (hb : ∀ b, big = some b → b < rs.length) {v : Nat} (hv : v < rs.length) {l : List Nat} (s : Sm rs v rs.length l) : c2 rs big v l = true ↔ Stump rs (kindO rs big) v fun x => decide (x ∈ l) := by
  unfold c2
  rw [Bool.and_eq_true, fil_nil]
  constructor
  · rintro ⟨h1, h2⟩
    have h2 : ∀ u ∈ dueOf rs big v l, u ∈ l := fun u hu => by
      have := h2 u hu
      simpa using this
    refine ⟨decide_eq_true s.top, fun x hx => mem_br.mp (s.in_br g hv x (of_decide_eq_true hx)), fun x p hx hne hp => decide_eq_true (s.up x p (of_decide_eq_true hx) hne hp), fun x p hl hp hx hm => ?_, fun x hx hne => rfl, fun x hx => h1⟩
    have hpl := of_decide_eq_true hx
    have hpb := mem_br.mp (s.in_br g hv p hpl)
    have hpx := g.par_lt hp
    have hvp := ups_le g p p (Nat.le_refl _) v hpb.2
    have hvx : v ∈ ups rs x := by rw [ups_some g hp]; exact List.mem_cons_of_mem _ hpb.2
    have hxv : x ≠ v := by omega
    have hm : (!decide (wayOf rs x = .lck) || decide (x ∈ dueL rs big)) = true := hm
    rw [decide_eq_true_eq]
    by_cases hd : x ∈ dueL rs big
    · cases hbig : big with
      | none => rw [hbig] at hd; cases hd
      | some b =>
        rw [hbig] at hd
        have hbl := hb b hbig
        have hxb := (wayL_mem g hbl).mp hd
        have hvb := ups_of_ups g b b (Nat.le_refl _) x hxb v hvx
        have hbin : b ∈ l := h2 b (mem_due.mpr (.inr ⟨mem_br.mpr ⟨hbl, hvb⟩, hbig⟩))
        exact s.chain g b b (Nat.le_refl _) hbin x hxb hvx
    · rw [decide_eq_false hd, Bool.or_false] at hm
      obtain ⟨_, _, _, hnon⟩ := g.par hl (by omega)
      cases hw : wayOf rs x with
      | non => exact absurd hw hnon
      | lck => rw [hw] at hm; simp at hm
      | opn => exact s.down x p hl hvx hxv hp hpl hw
      | bar => exact h2 x (mem_due.mpr (.inl ⟨mem_bars.mpr ⟨hl, hvx, hw, hxv⟩, p, hp, hpl⟩))
  · intro t
    have h1 : big.isSome = true := t.okk v t.top
    refine ⟨h1, fun u hu => ?_⟩
    suffices u ∈ l by simp [this]
    rcases mem_due.mp hu with ⟨hu, p, hp, hpl⟩ | ⟨hu, hbu⟩
    · obtain ⟨hl, _, hw, _⟩ := mem_bars.mp hu
      have := t.down u p hl hp (decide_eq_true hpl) (by show (!decide (wayOf rs u = .lck) || decide (u ∈ dueL rs big)) = true; rw [hw]; rfl)
      exact of_decide_eq_true this
    · obtain ⟨hul, hvu⟩ := mem_br.mp hu
      have hdue : dueL rs big = wayL rs u := by rw [hbu]; rfl
      have key : ∀ (n x : Nat), x ≤ n → x ∈ ups rs u → v ∈ ups rs x → x ∈ l := fun n => by
        induction n with
        | zero =>
          intro x hx hxu hvx
          have h0 : x = 0 := by omega
          subst h0
          rw [ups_none g g.par0] at hvx
          have : v = 0 := by simpa using hvx
          rw [← this]; exact s.top
        | succ n ih =>
          intro x hx hxu hvx
          by_cases hxv : x = v
          · rw [hxv]; exact s.top
          · cases hp : parOf rs x with
            | none =>
              rw [ups_none g hp] at hvx
              exact absurd (by simpa using hvx) (Ne.symm hxv)
            | some p =>
              have hlt := g.par_lt hp
              have hvp : v ∈ ups rs p := by
                rw [ups_some g hp] at hvx
                exact (List.mem_cons.mp hvx).resolve_left fun z => hxv z.symm
              have hpl := ih p (by omega) (ups_par g u u (Nat.le_refl _) x hxu p hp) hvp
              have := t.down x p hlt.2 hp (decide_eq_true hpl) (by
                show (!decide (wayOf rs x = .lck) || decide (x ∈ dueL rs big)) = true
                rw [hdue, decide_eq_true ((wayL_mem g hul).mpr hxu), Bool.or_true])
              exact of_decide_eq_true this
      exact key u u (Nat.le_refl _) (ups_self g u) hvu
theorem lack_iff {rs : List Room} (g : Rms rs) {v : Nat} (hv : v < rs.length) {l : List Nat} (s : Sm rs v rs.length l) : lackB rs v l = true ↔ lacks rs v fun x => decide (x ∈ l) := by
  unfold lackB lacks
  rw [decide_eq_true_eq]
  constructor
  · intro h
    refine Classical.byContradiction fun hc => ?_
    have : (branchL rs v).length ≤ l.length := nodup_sub lot_nodup fun y hy => Classical.byContradiction fun hyl => hc ⟨y, (mem_br.mp hy).1, (mem_br.mp hy).2, decide_eq_false hyl⟩
    omega
  · rintro ⟨y, h1, h2, h3⟩
    have h3 := of_decide_eq_false h3
    have : (y :: l).length ≤ (branchL rs v).length := nodup_sub (List.nodup_cons.mpr ⟨h3, sorted_nodup s.asc⟩) fun x hx => by
      rcases List.mem_cons.mp hx with z | z
      · subst z; exact mem_br.mpr ⟨h1, h2⟩
      · exact s.in_br g hv x z
    rw [List.length_cons] at this
    omega
def netO (rs : List Room) (small : List Nat) (l : List Nat) : Option Int := some ((l.map (wI rs small)).sum)
theorem net_of_lot {rs : List Room} {small : List Nat} {l : List Nat} (hl : l.Pairwise (· < ·)) (h : ∀ x ∈ l, x < rs.length) : (l.map (wI rs small)).sum = netI (wI rs small) (fun x => decide (x ∈ l)) rs.length := by
  rw [← netI_lot, lot_self hl h]
theorem least_all {rs : List Room} (g : Rms rs) {small : List Nat} {K : Kind} (hK : ∀ u, wayOf rs u = .opn → K.must u = true) {v : Nat} (hv : v < rs.length) {c : List Nat → Bool} (hc : ∀ l, Sm rs v rs.length l → (c l = true ↔ Stump rs K v fun x => decide (x ∈ l))) :
    Least (VS rs K (wI rs small) v) (minO (((stm rs v rs.length).filter c).map (netO rs small))) := by
  refine (least_min (P := fun l x => x = (l.map (wI rs small)).sum) (c := netO rs small) (l := (stm rs v rs.length).filter c) fun l _ => ⟨rfl, fun x e => by rw [e]; exact Int.le_refl _⟩).congr fun x => ?_
  constructor
  · rintro ⟨q, s, e⟩
    have sm := Sm.ofStump hK s
    have hlt : ∀ x ∈ lot rs.length q, x < rs.length := fun x hx => (lot_mem.mp hx).1
    refine ⟨lot rs.length q, List.mem_filter.mpr ⟨(stm_iff g _ (Nat.le_refl _) _).mpr sm, (hc _ sm).mpr ?_⟩, ?_⟩
    · have : (fun x => decide (x ∈ lot rs.length q)) = q := funext fun x => by
        by_cases hx : q x = true
        · rw [hx]; exact decide_eq_true (lot_mem.mpr ⟨(s.sub x hx).1, hx⟩)
        · rw [show q x = false by simpa using hx]; exact decide_eq_false fun z => hx (lot_mem.mp z).2
      rw [this]; exact s
    · rw [netI_lot, e]
  · rintro ⟨l, hl, e⟩
    obtain ⟨h1, h2⟩ := List.mem_filter.mp hl
    have sm := (stm_iff g _ (Nat.le_refl _) _).mp h1
    refine ⟨_, (hc l sm).mp h2, ?_⟩
    rw [e, net_of_lot sm.asc fun x hx => (mem_br.mp (sm.in_br g hv x hx)).1]
theorem least_lack {rs : List Room} (g : Rms rs) {small : List Nat} {K : Kind} (hK : ∀ u, wayOf rs u = .opn → K.must u = true) {v : Nat} (hv : v < rs.length) {c : List Nat → Bool} (hc : ∀ l, Sm rs v rs.length l → (c l = true ↔ Stump rs K v fun x => decide (x ∈ l))) :
    Least (VL rs K (wI rs small) v) (minO (((stm rs v rs.length).filter fun l => c l && lackB rs v l).map (netO rs small))) := by
  refine (least_min (P := fun l x => x = (l.map (wI rs small)).sum) (c := netO rs small) (l := (stm rs v rs.length).filter fun l => c l && lackB rs v l) fun l _ => ⟨rfl, fun x e => by rw [e]; exact Int.le_refl _⟩).congr fun x => ?_
  constructor
  · rintro ⟨q, s, hlk, e⟩
    have sm := Sm.ofStump hK s
    have this : (fun x => decide (x ∈ lot rs.length q)) = q := funext fun x => by
      by_cases hx : q x = true
      · rw [hx]; exact decide_eq_true (lot_mem.mpr ⟨(s.sub x hx).1, hx⟩)
      · rw [show q x = false by simpa using hx]; exact decide_eq_false fun z => hx (lot_mem.mp z).2
    refine ⟨lot rs.length q, List.mem_filter.mpr ⟨(stm_iff g _ (Nat.le_refl _) _).mpr sm, ?_⟩, ?_⟩
    · rw [Bool.and_eq_true, hc _ sm, lack_iff g hv sm, this]; exact ⟨s, hlk⟩
    · rw [netI_lot, e]
  · rintro ⟨l, hl, e⟩
    obtain ⟨h1, h2⟩ := List.mem_filter.mp hl
    have sm := (stm_iff g _ (Nat.le_refl _) _).mp h1
    rw [Bool.and_eq_true] at h2
    refine ⟨_, (hc l sm).mp h2.1, (lack_iff g hv sm).mp h2.2, ?_⟩
    rw [e, net_of_lot sm.asc fun x hx => (mem_br.mp (sm.in_br g hv x hx)).1]
theorem lleast_spec {rs : List Room} {small : List Nat} (ls : List (List Nat)) : v__law_least (.lst (ls.map (netD rs small))) = .ok (oI (minO (ls.map (netO rs small)))) := by
  unfold v__law_least
  rw [ne_nil, okb]
  cases ls with
  | nil => rfl
  | cons l ls =>
    have e : (l :: ls).map (netO rs small) = (((l.map (wI rs small)).sum) :: ls.map fun l => (l.map (wI rs small)).sum).map some := by
      rw [List.map_cons, List.map_cons, List.map_map]; rfl
    have e2 : (l :: ls).map (netD rs small) = (((l.map (wI rs small)).sum) :: ls.map fun l => (l.map (wI rs small)).sum).map D.int := by
      rw [List.map_cons, List.map_cons, List.map_map]; rfl
    rw [e, minO_ints, e2]
    show ((minV (.lst (List.map D.int _))).bind _).bind _ = _
    unfold minV lift1 minS
    show (((bestList minInts _).bind _).bind _).bind _ = _
    unfold bestList
    rw [listOf_lst]
    dsimp only
    rw [intsOf_ints]
    rfl
theorem row_spec {rs : List Room} {k : Nat} (g : Rms rs) (hn : rs.length ≤ 11) {big : Option Nat} {small : List Nat} (hs : small.length = rs.length) (hb : ∀ b, big = some b → b < rs.length) {v : Nat} (hv : v < rs.length) {r r' : Option Int × Option Int}
    (h : RowOf rs (kindP rs big) (wI rs small) v r) (h' : RowOf rs (kindO rs big) (wI rs small) v r') : v__law_row (dunD rs k) (laidD big small) (nD v) = .ok (rowD r r') := by
  have hbr := branch_len (rs := rs) (v := v)
  have m1 : mapV (vc__law_row_1 (dunD rs k) (nD v)) ((branchL rs v).map nD) = .ok ((barsL rs v).map nD) := by
    refine mapV_if _ _ (fun u hu => ?_) (by omega)
    unfold vc__law_row_1
    rw [dun0, okb, ix_room (mem_br.mp hu).1, okb, rD1, okb, way_bar, okb]
    have hne : neV (nD u) (nD v) = .ok (!decide (u = v)) := by
      show neV (.int _) (.int _) = _
      rw [neI]
      congr 1
      by_cases hx : u = v
      · subst hx; simp
      · rw [decide_eq_false hx, decide_eq_false (by omega)]
    rw [hne]
    cases decide (wayOf rs u = .bar) with
    | false => rfl
    | true => cases decide (u = v) <;> rfl
  unfold v__law_row
  rw [branch_spec g (by omega), okb, okb, show un2 (laidD big small) = .ok (oD big, .tup (small.map nD)) from rfl, okb]
  dsimp only
  rw [itemsV_lst, okb, m1, okb, stumps_spec g hn hv, okb, itemsV_lst, okb]
  have hlen := stm_len rs v rs.length
  have h2 : 2 ^ rs.length ≤ 2 ^ 11 := Nat.pow_le_pow_right (by omega) hn
  rw [rows_walk hn hs (stm rs v rs.length) [] [] [] [] (fun l hl => by
    have sm := (stm_iff g _ (Nat.le_refl _) l).mp hl
    exact ⟨fun x hx => (mem_br.mp (sm.in_br g hv x hx)).1, by have := sm_len hv (Nat.le_refl _) sm; omega⟩) (by simp; omega) (by simp; omega) (by simp; omega) (by simp; omega), okb]
  simp only [List.nil_append, List.map_cons, List.map_nil]
  rw [itemsV_lst, okb]
  have hP : ∀ u, wayOf rs u = .opn → (kindP rs big).must u = true := fun u h => decide_eq_true h
  have hO : ∀ u, wayOf rs u = .opn → (kindO rs big).must u = true := fun u h => by show (!decide (wayOf rs u = .lck) || decide (u ∈ dueL rs big)) = true; rw [h]; rfl
  have e1 := h.all.one (least_all g (small := small) hP hv fun l sm => c0_iff g (big := big) hv sm)
  have e2 := h.lack.one (least_lack g (small := small) hP hv fun l sm => c0_iff g (big := big) hv sm)
  have e3 := h'.all.one (least_all g (small := small) hO hv fun l sm => c2_iff g hb hv sm)
  have e4 := h'.lack.one (least_lack g (small := small) hO hv fun l sm => c2_iff g hb hv sm)
  have m7 : ∀ ls : List (List Nat), vc__law_row_7 (.lst (ls.map (netD rs small))) = .ok (some (oI (minO (ls.map (netO rs small))))) := fun ls => by
    unfold vc__law_row_7
    rw [lleast_spec, okb]
  have mm : mapV vc__law_row_7 [.lst (((stm rs v rs.length).filter (c0 rs big v)).map (netD rs small)), .lst (((stm rs v rs.length).filter fun l => c0 rs big v l && lackB rs v l).map (netD rs small)), .lst (((stm rs v rs.length).filter (c2 rs big v)).map (netD rs small)), .lst (((stm rs v rs.length).filter fun l => c2 rs big v l && lackB rs v l).map (netD rs small))] = .ok [oI r.1, oI r.2, oI r'.1, oI r'.2] := by
    rw [e1, e2, e3, e4]
    have := mapV_map (f := vc__law_row_7) (g := fun ls : List (List Nat) => D.lst (ls.map (netD rs small))) (fun ls => oI (minO (ls.map (netO rs small)))) (xs := [(stm rs v rs.length).filter (c0 rs big v), (stm rs v rs.length).filter fun l => c0 rs big v l && lackB rs v l, (stm rs v rs.length).filter (c2 rs big v), (stm rs v rs.length).filter fun l => c2 rs big v l && lackB rs v l]) (fun ls _ => m7 ls) (by simp)
    exact this
  rw [mm, okb, tupL, okb]
  rfl
/-! the whole table -/
theorem table_spec {rs : List Room} {k : Nat} (g : Rms rs) (hn : rs.length ≤ 11) {big : Option Nat} {small : List Nat} (hs : small.length = rs.length) (hb : ∀ b, big = some b → b < rs.length) {R S : Nat → Option Int × Option Int}
    (hR : ∀ u, u < rs.length → RowOf rs (kindP rs big) (wI rs small) u (R u)) (hS : ∀ u, u < rs.length → RowOf rs (kindO rs big) (wI rs small) u (S u)) : v__law_table (dunD rs k) (laidD big small) = .ok (.tup ((List.range rs.length).map fun u => rowD (R u) (S u))) := by
  unfold v__law_table
  rw [dun0, okb, len_rooms, okb, show rng1V (nD rs.length) = _ from rng1_nat (by omega), okb, mapV_map (fun u => rowD (R u) (S u)) (fun u hu => ?_) (by rw [List.length_range]; omega), okb, tupL, okb]
  have hu := List.mem_range.mp hu
  unfold vc__law_table_1
  rw [row_spec g hn hs hb hu (hR u hu) (hS u hu), okb]
theorem netI_abs {w : Nat → Int} {q : Nat → Bool} {b : Nat} (h : ∀ x, (w x).natAbs ≤ b) : ∀ n, (netI w q n).natAbs ≤ n * b
  | 0 => by show (0 : Int).natAbs ≤ _; simp
  | n + 1 => by
    have h1 := netI_abs (q := q) h n
    have h2 := h n
    rw [netI, Nat.succ_mul]
    split <;> omega
theorem wI_abs {rs : List Room} {small : List Nat} (h : ∀ x ∈ small, x ≤ 100) (v : Nat) : (wI rs small v).natAbs ≤ 101 := by
  unfold wI
  have : (small[v]?).getD 0 ≤ 100 := by
    cases hx : small[v]? with
    | none => simp
    | some x => exact h x (List.mem_of_getElem? hx)
  split <;> omega
end Lw

namespace K18
open PySem PySem.Spec PyProof.Rows L2 Pf Lw
local macro_rules | `(tactic| trivial) => `(tactic| simp only [okb, badb, gdt, bind_as, ite_bi, onV_bi, onV_nx, onV_rt, sl0, slS, eSlot_e, eSlotK_some, eLit_e, opd_val, opd_sl, vw_val, vw_sl, er_fz, wl_er, wr_er, two_e, twoK_e, twoL_e, twoM_e, valK_e, tru_and, tru_or, tru_not, andK_e, orK_e, notTK_e, tru_two, tru_slot, tru_lit, tru_bi, tru_one, tru_chn, tru_call, tru_ite, tru_comp, tru_mth, truK_e, truM_e, blK_e, boF_e, boK_e, boM_e, boN_a, boN_o, notF_e, notK_e, iteF_e, iteK_v, negF_e, negK_e, negM_v, nilA_e, consA_e, consA1_e, consA2_e, consA3_e, kept_t, kept_f, keptK_e, settle_val, settle_sl, frzSlot_fz, frz_wl, tupF_e, lstF_v, tupK_e, dsK_e, datas_nil, datas_cons, vws_nil, vws_cons, vwsK_e, biF_e, biK_e, biM_e, rngF_e, rngK_e, rngM_e, itsK_e, callF_e, callK_e, callM_e, callN_e, callP_e, elemB_n, elemB_c, elemB_d, ndB_n, ndB_c, ndB_d, backL_n, backL_d, backL_c, argsOf_n, argsOf_s, argsOf_v, argsOf_o, argE_e, argF_e, argG_e, noneO_e, someO_e, someK_e, someM_v, sliF_e, sliK_e, sliL1_e, sliL2_e, sliM_e, nxS_e, bkS_e, ctS_e, seqS_e, seqK_nx, seqK_rt, seqK_bk, seqK_ct, ifS_e, ifK_v, exS_e, exK_e, retS_e, retK_e, retL_e, retN_e, give_val, give_sl, giveSlot_fz, give_wl, take_tv, take_ts, take_f, takeK_e, nxK_e, setS_e, setK_e, setL2_e, asgS_e, asgK_e, asgL_e, nameG_e, tup2_v, tup3_v, tup4_v, stS_e, stK_e, stL1_e, stL2_e, stL3_v, stW_v, stX_v, augS_e, augK_e, augL2_v, agW_v, agA_v, agP_v, agB_v, agC_v, augN_v, augNc_v, augNa_v, augNb_v, nilL_e, consL_e, consL1_e, consL2_e, consL3_e, parS_e, parK_e, putL_nil, putL_cons, whlS, forS_e, forK_e, itF_e, itK_e, itL_v, compF_e, yesT_e, truth_bl, truV_bl, tru_v, tru_wl, eq_v, ne_v, lt_v, gt_v, le_v, ge_v, is_v, isnot_v, mem_v, idx_v, idx_wl, add_v, sub_v, mul_v, div_v, mod_v, pow_v, cat_v, cat_wl, rep_v, len_v, len_wl, int_v, abs_v, tup_v, tup_wl, lst_v, lst_wl, repr_v, repr_wl, all_v, all_wl, sum_v, sum_wl, sort_v, sort_wl, sli_v, sli_wl, isi_v, oneF_e, oneK_e, oneM_e, chnF_e, chnK_e, chnM_e, chnN_e, chnO_v, chnP_e, mthF_e, mthL_v, mthK_e, mthM_v, mthN_v, app_v, ext_v, ins_v, pop_v, dat_v, zip_v, rng1_v, rng2_v, rng3_v, runK_rt, runK_nx, runL_e, lent_n, lent_c, lentK_e, lentK2_e, wipeS_e, wipeSK_e, preS_e, frzF_e, frzK_e, wipK_e, wipe_n, wipe_v, back_n, back_c, turnC_e, turn1_e, turn2_e, turn3_e, turn4_e, putS, Option.map_some, Option.map_none, List.set_cons_zero, List.set_cons_succ, List.map_cons, List.map_nil, List.length_cons, List.length_nil, List.length_set, List.mem_cons, List.not_mem_nil, or_false, false_or, Nat.zero_add, Nat.reduceAdd, Nat.reduceLT, Nat.reduceEqDiff, Nat.reduceBEq, List.nil_append, List.cons_append, List.replicate, Nat.reduceSub, not_false_eq_true, decide_true, decide_false, Bool.and_self, Bool.true_and, Bool.and_true, Bool.not_false, Bool.not_true, Bool.false_or, Bool.or_false, if_true, if_false, Bool.false_eq_true, List.all_cons, List.all_nil, sz0, sz1, sz2, sz3, sz4, sz5, sz6, sz7, sz8, retZ_e, retZK_e, retZL_e, wipI_e, wipIK_e, wll_er, frz_wll, len_wll, napp_e, nappK_v, qSlot_e, fzOf_e, qLit_v, rgLF_e, rgLK_e, rgL_v, rgT_v, starA_e, starK1_e, starK2_e, starK3_e, datas_app, joinV_e, rev_v, wr_lst, addV_lst, mulV_lst, sliV_lst, truV_lst, itemsV_lst, itemsV_tup, seqV_lst, seqV_tup, lstV_lst, lstV_tup, extV_lst, intD_int, max2_v, min2_v, min3_v, max1_v, min1_v, max_wl, min_wl, lsF_e, lsK_e, lsM_fz, lsM_wl, index_v, lstO_e, lstO_1, lstO_2, lstO_3, lstO_4, parM_e, parMK_e, lenM_2, lenM_3, lenM_4, lenM_5, nilM_e, nameM_e, fzM_e, nameMK_e, nmtF_e, nmtL_v, nmtM_e, nmtP_v, List.append_nil, datas_vals, gd_bind, *])
def top (i : Nat) : Stmt := PySem.Challenge.pw_wellstrewn_k18_net_tables_by_all_stumps.main.body.getD i (.Pass ⟨0, 0, 0, 0⟩)
noncomputable section
variable {P : Program} {w : World} {K : PySem.W.Frag} {mg : Str → Option Value} {base : Heap}
abbrev cd0 (P : Program) (w : World) (K : PySem.W.Frag) (mg : Str → Option Value) (base : Heap) : Cd := ⟨P, w, K, mg, base, [], defScope (top 0), fun _ => true⟩
/-! _law_bag -/
abbrev s__law_bag : Stmt := top 11
abbrev N__law_bag : List Str := ["script", "cell"]
def c__law_bag_1 : T → Res (Bool × T) := yesT
def ce__law_bag_1 : FP := (biF (consA [] true (eSlot 1) nilA) absS)
def g__law_bag : FS := (seqS (retS [] (lstF (consA [] false (eLit (.int 0)) (consA [] false (eLit (.int 1234567891)) (consA [] false (eLit (.int 0)) (consA [] false (compF [] [1] false (itF [] (sliF (eSlot 0) noneO (someO (eLit (.int 63))))) (nameG [] 1) c__law_bag_1 ce__law_bag_1) nilA))))))
  nxS)
def f__law_bag : FV := runF 2 1 [] g__law_bag
theorem b__law_bag {X : Cx} (m_abs : mg "abs" = none) (B : Bd X ⟨P, w, K, mg, base, N__law_bag, defScope s__law_bag, fun _ => true⟩ 0) : XB X [] (defBody s__law_bag) g__law_bag :=
  (xb_cons (xs_ret (xp_lst (xa_cons rfl xp_int (xa_cons rfl xp_int (xa_cons rfl xp_int (xa_cons rfl (B.comp [("cell", 1)] (by kernel_rfl) (by kernel_rfl) (fun _ => rfl) (xi_it (xp_slice (B.slot (by kernel_rfl)) xo_none (xo_some xp_int))) (fun X1 B1 => ⟨(B1.gname (by kernel_rfl)), xts_nil, (B1.abs (by kernel_rfl) m_abs rfl (xa_cons rfl (B1.slot (by kernel_rfl)) xa_nil))⟩)) xa_nil))))))
  xb_nil)
theorem sc__law_bag : FnScope N__law_bag ["script"] (defScope s__law_bag) := ⟨rfl, rfl, rfl, by decide +kernel, rfl, by decide +kernel, by decide +kernel⟩
theorem k__law_bag {f : Addr} {fd : FuncData} (m_abs : mg "abs" = none) (F : FunD K "_law_bag" "_law_bag" (defArgs s__law_bag) (defBody s__law_bag) (defScope s__law_bag) [] [] f fd) : FnG P w K mg base 1 f fd ["script"] (spP K 1 [] f__law_bag) :=
  fn_ok (l := []) F sc__law_bag fun X B => b__law_bag m_abs B
theorem cal__law_bag {f : Addr} {fd : FuncData} (m_abs : mg "abs" = none) (F : FunD K "_law_bag" "_law_bag" (defArgs s__law_bag) (defBody s__law_bag) (defScope s__law_bag) [] [] f fd) (hm : mg "_law_bag" = some (.ref f)) : Cal (cd0 P w K mg base) 1 "_law_bag" 1 [] f__law_bag :=
  ⟨f, fd, ["script"], k__law_bag m_abs F, hm, F.kp, F.bindsN fun _ _ _ _ _ _ us hl => match us, hl with | [_], _ => rfl⟩
theorem cq__law_bag_1 (script : D) (ds : List D) : compK [] [1] false (nameG [] 1) c__law_bag_1 ce__law_bag_1 (ds, [some (.fz script), none]) = (mapV (vc__law_bag_1) ds).bind fun l => .ok (.val (wl l), [some (.fz script), none]) := by
  refine comp_v [some (.fz script), none] [some (.fz script), none] rfl rfl (fun d => ?_) ds
  · unfold c__law_bag_1 ce__law_bag_1 vc__law_bag_1
    trivial
theorem e__law_bag (script : D) : f__law_bag [.fz script] = (v__law_bag script).bind fun r => .ok (wl r, []) := by
  unfold f__law_bag g__law_bag v__law_bag
  rw [runF_e _ _ _ _ _ rfl]
  have h_cq__law_bag_1 := @cq__law_bag_1; trivial
/-! _law_take -/
abbrev s__law_take : Stmt := top 12
abbrev N__law_take : List Str := ["bag", "many", "cell", "stirred", "value", "begin", "second"]
def g__law_take : FS := (seqS (ifS (two (two (eSlot 0) (eLit (.int 0)) idxS) (eLit (.int 0)) eqS) (wipeS [2, 3] (seqS (setS [0] 2 false (two (two (sliF (two (eSlot 0) (eLit (.int 3)) idxS) (someO (two (eSlot 0) (eLit (.int 2)) idxS)) noneO) (lstF (consA [0] false (eLit (.int 0)) nilA)) addS) (eLit (.int 0)) idxS))
  (seqS (augS (eSlot 0) (eLit (.int 2)) (eLit (.int 1)) (fun i j => i + j))
  (seqS (ifS (two (eSlot 2) (two (eLit (.int 10)) (eLit (.int 18)) powS) geS) (seqS (stS [0] (eSlot 2) (eSlot 0) (eLit (.int 0)))
  nxS) nxS)
  (seqS (setS [0] 3 false (two (two (two (two (eSlot 0) (eLit (.int 1)) idxS) (eLit (.int 48271)) mulS) (two (biF (consA [0] true (eSlot 2) nilA) intS) (eLit (.int 2147483647)) modS) addS) (two (eLit (.int 7919)) (two (eSlot 0) (eLit (.int 2)) idxS) mulS) addS))
  (seqS (stS [0] (two (biF (consA [0] true (eSlot 3) nilA) intS) (eLit (.int 2147483647)) modS) (eSlot 0) (eLit (.int 1)))
  nxS)))))) nxS)
  (seqS (ifS (two (two (eSlot 0) (eLit (.int 0)) idxS) (eLit (.int 0)) gtS) (seqS (setS [0] 4 false (two (biF (consA [0] true (two (eSlot 0) (eLit (.int 0)) idxS) nilA) intS) (eSlot 1) modS))
  (seqS (stS [0] (two (biF (consA [0] true (two (eSlot 0) (eLit (.int 0)) idxS) nilA) intS) (eSlot 1) divS) (eSlot 0) (eLit (.int 0)))
  (seqS (retZ [0] (eSlot 4))
  nxS))) nxS)
  (seqS (setS [0] 5 false (two (biF (consA [0] true (two (two (two (eSlot 0) (eLit (.int 1)) idxS) (eLit (.int 1)) addS) (eLit (.int 39373)) mulS) nilA) intS) (eLit (.int 1000000007)) modS))
  (seqS (setS [0] 6 false (two (biF (consA [0] true (two (two (biF (consA [0] true (two (eSlot 5) (eSlot 5) mulS) nilA) intS) (eLit (.int 998244353)) modS) (eLit (.int 30011)) mulS) nilA) intS) (eLit (.int 998244353)) modS))
  (seqS (retZ [0] (two (biF (consA [0] true (two (eSlot 6) (eLit (.int 7)) divS) nilA) intS) (eSlot 1) modS))
  nxS)))))
def f__law_take : FV := runF 7 2 [0] g__law_take
theorem b__law_take {X : Cx} (m_int : mg "int" = none) (B : Bd X ⟨P, w, K, mg, base, N__law_take, defScope s__law_take, fun _ => true⟩ 0) : XB X [0] (defBody s__law_take) g__law_take :=
  (xb_cons (xs_if (B.teq (xp_idx rfl (B.slot (by kernel_rfl)) xp_int) xp_int) (xb_wipe [2, 3] (xb_cons (B.set (own := false) (by kernel_rfl) rfl (xp_idx rfl (xp_bin os_add (xp_slice (xp_idx rfl (B.slot (by kernel_rfl)) xp_int) (xo_some (xp_idx rfl (B.slot (by kernel_rfl)) xp_int)) xo_none) (xp_lst (xa_cons rfl xp_int xa_nil))) xp_int))
  (xb_cons (xs_augIx ip_add rfl (B.slot (by kernel_rfl)) xp_int xp_int)
  (xb_cons (xs_if (B.tge (B.slot (by kernel_rfl)) (xp_bin os_pow xp_int xp_int)) (xb_cons (B.st rfl rfl rfl (B.slot (by kernel_rfl)) (B.slot (by kernel_rfl)) xp_int)
  xb_nil) xb_nil)
  (xb_cons (B.set (own := false) (by kernel_rfl) rfl (xp_bin os_add (xp_bin os_add (xp_bin os_mul (xp_idx rfl (B.slot (by kernel_rfl)) xp_int) xp_int) (xp_bin os_mod (B.int (by kernel_rfl) m_int rfl (xa_cons rfl (B.slot (by kernel_rfl)) xa_nil)) xp_int)) (xp_bin os_mul xp_int (xp_idx rfl (B.slot (by kernel_rfl)) xp_int))))
  (xb_cons (B.st rfl rfl rfl (xp_bin os_mod (B.int (by kernel_rfl) m_int rfl (xa_cons rfl (B.slot (by kernel_rfl)) xa_nil)) xp_int) (B.slot (by kernel_rfl)) xp_int)
  xb_nil)))))) xb_nil)
  (xb_cons (xs_if (B.tgt (xp_idx rfl (B.slot (by kernel_rfl)) xp_int) xp_int) (xb_cons (B.set (own := false) (by kernel_rfl) rfl (xp_bin os_mod (B.int (by kernel_rfl) m_int rfl (xa_cons rfl (xp_idx rfl (B.slot (by kernel_rfl)) xp_int) xa_nil)) (B.slot (by kernel_rfl))))
  (xb_cons (B.st rfl rfl rfl (xp_bin os_div (B.int (by kernel_rfl) m_int rfl (xa_cons rfl (xp_idx rfl (B.slot (by kernel_rfl)) xp_int) xa_nil)) (B.slot (by kernel_rfl))) (B.slot (by kernel_rfl)) xp_int)
  (xb_cons (xs_retZ (B.slot (by kernel_rfl)))
  xb_nil))) xb_nil)
  (xb_cons (B.set (own := false) (by kernel_rfl) rfl (xp_bin os_mod (B.int (by kernel_rfl) m_int rfl (xa_cons rfl (xp_bin os_mul (xp_bin os_add (xp_idx rfl (B.slot (by kernel_rfl)) xp_int) xp_int) xp_int) xa_nil)) xp_int))
  (xb_cons (B.set (own := false) (by kernel_rfl) rfl (xp_bin os_mod (B.int (by kernel_rfl) m_int rfl (xa_cons rfl (xp_bin os_mul (xp_bin os_mod (B.int (by kernel_rfl) m_int rfl (xa_cons rfl (xp_bin os_mul (B.slot (by kernel_rfl)) (B.slot (by kernel_rfl))) xa_nil)) xp_int) xp_int) xa_nil)) xp_int))
  (xb_cons (xs_retZ (xp_bin os_mod (B.int (by kernel_rfl) m_int rfl (xa_cons rfl (xp_bin os_div (B.slot (by kernel_rfl)) xp_int) xa_nil)) (B.slot (by kernel_rfl))))
  xb_nil)))))
theorem sc__law_take : FnScope N__law_take ["bag", "many"] (defScope s__law_take) := ⟨rfl, rfl, rfl, by decide +kernel, rfl, by decide +kernel, by decide +kernel⟩
theorem k__law_take {f : Addr} {fd : FuncData} (m_int : mg "int" = none) (F : FunD K "_law_take" "_law_take" (defArgs s__law_take) (defBody s__law_take) (defScope s__law_take) [] [] f fd) : FnG P w K mg base 1 f fd ["bag", "many"] (spP K 2 [0] f__law_take) :=
  fn_ok (l := [0]) F sc__law_take fun X B => b__law_take m_int B
theorem cal__law_take {f : Addr} {fd : FuncData} (m_int : mg "int" = none) (F : FunD K "_law_take" "_law_take" (defArgs s__law_take) (defBody s__law_take) (defScope s__law_take) [] [] f fd) (hm : mg "_law_take" = some (.ref f)) : Cal (cd0 P w K mg base) 1 "_law_take" 2 [0] f__law_take :=
  ⟨f, fd, ["bag", "many"], k__law_take m_int F, hm, F.kp, F.bindsN fun _ _ _ _ _ _ us hl => match us, hl with | [_, _], _ => rfl⟩
theorem e__law_take (bag : List D) (many : D) : f__law_take [wl bag, .fz many] = (v__law_take bag many).bind fun r => .ok (.fz r.1, [wl r.2]) := by
  unfold f__law_take g__law_take v__law_take
  rw [runF_e _ _ _ _ _ rfl]
  trivial
/-! _law_some -/
abbrev s__law_some : Stmt := top 13
abbrev N__law_some : List Str := ["bag", "things"]
def g__law_some : FS := (seqS (retZ [0] (two (eSlot 1) (callF 2 [0] f__law_take (consA [0] true (eSlot 0) (consA [0] false (biF (consA [0] true (eSlot 1) nilA) lenS) nilA))) idxS))
  nxS)
def f__law_some : FV := runF 2 2 [0] g__law_some
theorem b__law_some {X : Cx} (m_len : mg "len" = none) (c__law_take : Cal (cd0 P w K mg base) 1 "_law_take" 2 [0] f__law_take) (B : Bd X ⟨P, w, K, mg, base, N__law_some, defScope s__law_some, fun _ => true⟩ 1) : XB X [0] (defBody s__law_some) g__law_some :=
  (xb_cons (xs_retZ (xp_idx rfl (B.slot (by kernel_rfl)) (B.call ⟨c__law_take.ex⟩ (by decide) (by kernel_rfl) rfl (xa_cons rfl (B.slot (by kernel_rfl)) (xa_cons rfl (B.len (by kernel_rfl) m_len rfl (xa_cons rfl (B.slot (by kernel_rfl)) xa_nil)) xa_nil)))))
  xb_nil)
theorem sc__law_some : FnScope N__law_some ["bag", "things"] (defScope s__law_some) := ⟨rfl, rfl, rfl, by decide +kernel, rfl, by decide +kernel, by decide +kernel⟩
theorem k__law_some {f : Addr} {fd : FuncData} (m_len : mg "len" = none) (c__law_take : Cal (cd0 P w K mg base) 1 "_law_take" 2 [0] f__law_take) (F : FunD K "_law_some" "_law_some" (defArgs s__law_some) (defBody s__law_some) (defScope s__law_some) [] [] f fd) : FnG P w K mg base 2 f fd ["bag", "things"] (spP K 2 [0] f__law_some) :=
  fn_ok (l := [0]) F sc__law_some fun X B => b__law_some m_len c__law_take B
theorem cal__law_some {f : Addr} {fd : FuncData} (m_len : mg "len" = none) (c__law_take : Cal (cd0 P w K mg base) 1 "_law_take" 2 [0] f__law_take) (F : FunD K "_law_some" "_law_some" (defArgs s__law_some) (defBody s__law_some) (defScope s__law_some) [] [] f fd) (hm : mg "_law_some" = some (.ref f)) : Cal (cd0 P w K mg base) 2 "_law_some" 2 [0] f__law_some :=
  ⟨f, fd, ["bag", "things"], k__law_some m_len c__law_take F, hm, F.kp, F.bindsN fun _ _ _ _ _ _ us hl => match us, hl with | [_, _], _ => rfl⟩
theorem e__law_some (bag : List D) (things : D) : f__law_some [wl bag, .fz things] = (v__law_some bag things).bind fun r => .ok (.fz r.1, [wl r.2]) := by
  unfold f__law_some g__law_some v__law_some
  rw [runF_e _ _ _ _ _ rfl]
  have h_e__law_take := @e__law_take; trivial
/-! _law_dungeon -/
abbrev s__law_dungeon : Stmt := top 15
abbrev N__law_dungeon : List Str := ["bag", "most", "rooms", "has_bars", "v", "way", "locks", "needed", "many", "keys", "room"]
def gb__law_dungeon_1 : FS := (wipeS [4, 5] (seqS (setS [0] 5 false (callF 2 [0] f__law_some (consA [0] true (eSlot 0) (consA [0] false (lstF (consA [0] false (eLit (.str "open")) (consA [0] false (eLit (.str "lock")) (consA [0] false (eLit (.str "lock")) (consA [0] false (iteF (eSlot 3) (eLit (.str "bar")) (eLit (.str "lock"))) nilA))))) nilA))))
  (seqS (exS (mthF 2 (consA [0] false (tupF (consA [0] false (callF 2 [0] f__law_some (consA [0] true (eSlot 0) (consA [0] false (lstF (consA [0] false (two (eSlot 4) (eLit (.int 1)) subS) (consA [0] false (callF 2 [0] f__law_take (consA [0] true (eSlot 0) (consA [0] false (eSlot 4) nilA))) nilA))) nilA))) (consA [0] false (eSlot 5) (consA [0] false (callF 2 [0] f__law_some (consA [0] true (eSlot 0) (consA [0] false (lstF (consA [0] false (eLit (.int 1)) (consA [0] false (eLit (.int 0)) (consA [0] false (eLit (.int 1)) (consA [0] false (eLit (.int 1)) (consA [0] false (eLit (.int 2)) nilA)))))) nilA))) nilA)))) nilA) appendM))
  nxS)))
def c__law_dungeon_2 : T → Res (Bool × T) := (tru (two (two (eSlot 10) (eLit (.int 1)) idxS) (eLit (.str "lock")) eqS))
def ce__law_dungeon_2 : FP := (eLit (.int 1))
def c__law_dungeon_3 : T → Res (Bool × T) := (tru (two (two (eSlot 10) (eLit (.int 1)) idxS) (eLit (.str "bar")) eqS))
def ce__law_dungeon_3 : FP := (eLit (.int 1))
def c__law_dungeon_4 : T → Res (Bool × T) := yesT
def ce__law_dungeon_4 : FP := (two (eSlot 10) (eLit (.int 2)) idxS)
def g__law_dungeon : FS := (seqS (parS [0] [2, 3] (consL [0] true (lstF (consA [0] false (tupF (consA [0] false (eLit .non) (consA [0] false (eLit .non) (consA [0] false (callF 2 [0] f__law_some (consA [0] true (eSlot 0) (consA [0] false (lstF (consA [0] false (eLit (.int 1)) (consA [0] false (eLit (.int 0)) (consA [0] false (eLit (.int 1)) (consA [0] false (eLit (.int 2)) nilA))))) nilA))) nilA)))) nilA)) (consL [0] false (two (callF 2 [0] f__law_take (consA [0] true (eSlot 0) (consA [0] false (eLit (.int 2)) nilA))) (eLit (.int 0)) eqS) nilL)))
  (seqS (forS (wipI [1] (rngF range2S (consA [0] true (eLit (.int 1)) (consA [0] true (two (eLit (.int 1)) (callF 2 [0] f__law_take (consA [0] true (eSlot 0) (consA [0] false (eSlot 1) nilA))) addS) nilA)))) (nameG [0] 4)
  gb__law_dungeon_1)
  (seqS (setS [0] 6 false (biF (consA [0] true (compO [0] [10] false 2 (nameG [2, 0] 10) c__law_dungeon_2 ce__law_dungeon_2) nilA) lenS))
  (seqS (setS [0] 7 false (biF (consA [0] true (two (compO [0] [10] false 2 (nameG [2, 0] 10) c__law_dungeon_3 ce__law_dungeon_3) (lstF nilA) neS) nilA) intS))
  (seqS (setS [0] 8 false (biF (consA [0] true (compO [0] [10] false 2 (nameG [2, 0] 10) c__law_dungeon_4 ce__law_dungeon_4) nilA) sumS))
  (seqS (ifS (two (eSlot 8) (eSlot 7) ltS) (wipeS [3] (seqS (parS [0] [2, 8] (consL [0] true (two (lstF (consA [0] false (tupF (consA [0] false (eLit .non) (consA [0] false (eLit .non) (consA [0] false (eLit (.int 1)) nilA)))) nilA)) (sliF (eSlot 2) (someO (eLit (.int 1))) noneO) addS) (consL [0] false (eLit (.int 1)) nilL)))
  nxS)) (wipeS [3] nxS))
  (seqS (setS [0] 9 false (callF 2 [0] f__law_some (consA [0] true (eSlot 0) (consA [0] false (lstF (consA [0] false (eSlot 6) (consA [0] false (eSlot 6) (consA [0] false (eSlot 6) (consA [0] false (two (eSlot 6) (eLit (.int 1)) addS) (consA [0] false (biF (consA [0] true (eLit (.int 0)) (consA [0] true (two (eSlot 6) (eLit (.int 1)) subS) nilA)) maxS) nilA)))))) nilA))))
  (seqS (retZ [0] (tupF (consA [0] false (biF (consA [0] true (eSlot 2) nilA) tupS) (consA [0] false (biF (consA [0] true (eLit (.int 0)) (consA [0] true (biF (consA [0] true (eSlot 9) (consA [0] true (two (eSlot 8) (eSlot 7) subS) (consA [0] true (eLit (.int 6)) nilA))) minS) nilA)) maxS) nilA))))
  nxS))))))))
def f__law_dungeon : FV := runF 11 2 [0] g__law_dungeon
theorem b__law_dungeon {X : Cx} (m_int : mg "int" = none) (m_len : mg "len" = none) (m_max : mg "max" = none) (m_min : mg "min" = none) (m_range : mg "range" = none) (m_sum : mg "sum" = none) (m_tuple : mg "tuple" = none) (c__law_some : Cal (cd0 P w K mg base) 2 "_law_some" 2 [0] f__law_some) (c__law_take : Cal (cd0 P w K mg base) 1 "_law_take" 2 [0] f__law_take) (B : Bd X ⟨P, w, K, mg, base, N__law_dungeon, defScope s__law_dungeon, fun _ => true⟩ 2) : XB X [0] (defBody s__law_dungeon) g__law_dungeon :=
  (xb_cons (B.par2 (by kernel_rfl) (by kernel_rfl) (by kernel_rfl) (by kernel_rfl) (by kernel_rfl) (by kernel_rfl) (by kernel_rfl) (by kernel_rfl) (xl_cons rfl (xp_lst (xa_cons rfl (xp_tup (xa_cons rfl xp_non (xa_cons rfl xp_non (xa_cons rfl (B.call ⟨c__law_some.ex⟩ (by decide) (by kernel_rfl) rfl (xa_cons rfl (B.slot (by kernel_rfl)) (xa_cons rfl (xp_lst (xa_cons rfl xp_int (xa_cons rfl xp_int (xa_cons rfl xp_int (xa_cons rfl xp_int xa_nil))))) xa_nil))) xa_nil)))) xa_nil)) (xl_cons rfl (B.eq (B.call ⟨c__law_take.ex⟩ (by decide) (by kernel_rfl) rfl (xa_cons rfl (B.slot (by kernel_rfl)) (xa_cons rfl xp_int xa_nil))) xp_int) xl_nil)))
  (xb_cons (B.for_ (fun _ => rfl) (xi_wipe [1] (B.range2 (by kernel_rfl) m_range rfl (xa_cons rfl xp_int (xa_cons rfl (xp_bin os_add xp_int (B.call ⟨c__law_take.ex⟩ (by decide) (by kernel_rfl) rfl (xa_cons rfl (B.slot (by kernel_rfl)) (xa_cons rfl (B.slot (by kernel_rfl)) xa_nil)))) xa_nil)))) (B.gname (by kernel_rfl)) (xb_wipe [4, 5] (xb_cons (B.set (own := false) (by kernel_rfl) rfl (B.call ⟨c__law_some.ex⟩ (by decide) (by kernel_rfl) rfl (xa_cons rfl (B.slot (by kernel_rfl)) (xa_cons rfl (xp_lst (xa_cons rfl xp_str (xa_cons rfl xp_str (xa_cons rfl xp_str (xa_cons rfl (xp_ite (xt_of (B.slot (by kernel_rfl)) (fun _ => rfl)) xp_str xp_str) xa_nil))))) xa_nil))))
  (xb_cons (xs_expr rfl (B.append (by kernel_rfl) rfl rfl rfl rfl (xa_cons rfl (xp_tup (xa_cons rfl (B.call ⟨c__law_some.ex⟩ (by decide) (by kernel_rfl) rfl (xa_cons rfl (B.slot (by kernel_rfl)) (xa_cons rfl (xp_lst (xa_cons rfl (xp_bin os_sub (B.slot (by kernel_rfl)) xp_int) (xa_cons rfl (B.call ⟨c__law_take.ex⟩ (by decide) (by kernel_rfl) rfl (xa_cons rfl (B.slot (by kernel_rfl)) (xa_cons rfl (B.slot (by kernel_rfl)) xa_nil))) xa_nil))) xa_nil))) (xa_cons rfl (B.slot (by kernel_rfl)) (xa_cons rfl (B.call ⟨c__law_some.ex⟩ (by decide) (by kernel_rfl) rfl (xa_cons rfl (B.slot (by kernel_rfl)) (xa_cons rfl (xp_lst (xa_cons rfl xp_int (xa_cons rfl xp_int (xa_cons rfl xp_int (xa_cons rfl xp_int (xa_cons rfl xp_int xa_nil)))))) xa_nil))) xa_nil)))) xa_nil)))
  xb_nil))))
  (xb_cons (B.set (own := false) (by kernel_rfl) rfl (B.len (by kernel_rfl) m_len rfl (xa_cons rfl (B.compO [("room", 10)] (by kernel_rfl) (by kernel_rfl) (fun _ => rfl) (B.slot (by kernel_rfl)) (fun X1 B1 => ⟨(B1.gname (by kernel_rfl)), (xts_one (B1.teq (xp_idx rfl (B1.slot (by kernel_rfl)) xp_int) xp_str)), xp_int⟩)) xa_nil)))
  (xb_cons (B.set (own := false) (by kernel_rfl) rfl (B.int (by kernel_rfl) m_int rfl (xa_cons rfl (B.ne (B.compO [("room", 10)] (by kernel_rfl) (by kernel_rfl) (fun _ => rfl) (B.slot (by kernel_rfl)) (fun X2 B2 => ⟨(B2.gname (by kernel_rfl)), (xts_one (B2.teq (xp_idx rfl (B2.slot (by kernel_rfl)) xp_int) xp_str)), xp_int⟩)) (xp_lst xa_nil)) xa_nil)))
  (xb_cons (B.set (own := false) (by kernel_rfl) rfl (B.sum (by kernel_rfl) m_sum rfl (xa_cons rfl (B.compO [("room", 10)] (by kernel_rfl) (by kernel_rfl) (fun _ => rfl) (B.slot (by kernel_rfl)) (fun X3 B3 => ⟨(B3.gname (by kernel_rfl)), xts_nil, (xp_idx rfl (B3.slot (by kernel_rfl)) xp_int)⟩)) xa_nil)))
  (xb_cons (xs_if (B.tlt (B.slot (by kernel_rfl)) (B.slot (by kernel_rfl))) (xb_wipe [3] (xb_cons (B.par2 (by kernel_rfl) (by kernel_rfl) (by kernel_rfl) (by kernel_rfl) (by kernel_rfl) (by kernel_rfl) (by kernel_rfl) (by kernel_rfl) (xl_cons rfl (xp_bin os_add (xp_lst (xa_cons rfl (xp_tup (xa_cons rfl xp_non (xa_cons rfl xp_non (xa_cons rfl xp_int xa_nil)))) xa_nil)) (xp_slice (B.slot (by kernel_rfl)) (xo_some xp_int) xo_none)) (xl_cons rfl xp_int xl_nil)))
  xb_nil)) (xb_wipe [3] xb_nil))
  (xb_cons (B.set (own := false) (by kernel_rfl) rfl (B.call ⟨c__law_some.ex⟩ (by decide) (by kernel_rfl) rfl (xa_cons rfl (B.slot (by kernel_rfl)) (xa_cons rfl (xp_lst (xa_cons rfl (B.slot (by kernel_rfl)) (xa_cons rfl (B.slot (by kernel_rfl)) (xa_cons rfl (B.slot (by kernel_rfl)) (xa_cons rfl (xp_bin os_add (B.slot (by kernel_rfl)) xp_int) (xa_cons rfl (B.max (by kernel_rfl) m_max rfl (xa_cons rfl xp_int (xa_cons rfl (xp_bin os_sub (B.slot (by kernel_rfl)) xp_int) xa_nil))) xa_nil)))))) xa_nil))))
  (xb_cons (xs_retZ (xp_tup (xa_cons rfl (B.tuple (by kernel_rfl) m_tuple rfl (xa_cons rfl (B.slot (by kernel_rfl)) xa_nil)) (xa_cons rfl (B.max (by kernel_rfl) m_max rfl (xa_cons rfl xp_int (xa_cons rfl (B.min (by kernel_rfl) m_min rfl (xa_cons rfl (B.slot (by kernel_rfl)) (xa_cons rfl (xp_bin os_sub (B.slot (by kernel_rfl)) (B.slot (by kernel_rfl))) (xa_cons rfl xp_int xa_nil)))) xa_nil))) xa_nil))))
  xb_nil))))))))
theorem sc__law_dungeon : FnScope N__law_dungeon ["bag", "most"] (defScope s__law_dungeon) := ⟨rfl, rfl, rfl, by decide +kernel, rfl, by decide +kernel, by decide +kernel⟩
theorem k__law_dungeon {f : Addr} {fd : FuncData} (m_int : mg "int" = none) (m_len : mg "len" = none) (m_max : mg "max" = none) (m_min : mg "min" = none) (m_range : mg "range" = none) (m_sum : mg "sum" = none) (m_tuple : mg "tuple" = none) (c__law_some : Cal (cd0 P w K mg base) 2 "_law_some" 2 [0] f__law_some) (c__law_take : Cal (cd0 P w K mg base) 1 "_law_take" 2 [0] f__law_take) (F : FunD K "_law_dungeon" "_law_dungeon" (defArgs s__law_dungeon) (defBody s__law_dungeon) (defScope s__law_dungeon) [] [] f fd) : FnG P w K mg base 3 f fd ["bag", "most"] (spP K 2 [0] f__law_dungeon) :=
  fn_ok (l := [0]) F sc__law_dungeon fun X B => b__law_dungeon m_int m_len m_max m_min m_range m_sum m_tuple c__law_some c__law_take B
theorem cal__law_dungeon {f : Addr} {fd : FuncData} (m_int : mg "int" = none) (m_len : mg "len" = none) (m_max : mg "max" = none) (m_min : mg "min" = none) (m_range : mg "range" = none) (m_sum : mg "sum" = none) (m_tuple : mg "tuple" = none) (c__law_some : Cal (cd0 P w K mg base) 2 "_law_some" 2 [0] f__law_some) (c__law_take : Cal (cd0 P w K mg base) 1 "_law_take" 2 [0] f__law_take) (F : FunD K "_law_dungeon" "_law_dungeon" (defArgs s__law_dungeon) (defBody s__law_dungeon) (defScope s__law_dungeon) [] [] f fd) (hm : mg "_law_dungeon" = some (.ref f)) : Cal (cd0 P w K mg base) 3 "_law_dungeon" 2 [0] f__law_dungeon :=
  ⟨f, fd, ["bag", "most"], k__law_dungeon m_int m_len m_max m_min m_range m_sum m_tuple c__law_some c__law_take F, hm, F.kp, F.bindsN fun _ _ _ _ _ _ us hl => match us, hl with | [_, _], _ => rfl⟩
theorem lq__law_dungeon_1 (bag : List D) (rooms : List D) (has_bars : D) (ds : List D) : forL (nameG [0] 4) gb__law_dungeon_1 ds [some (wl bag), none, some (wl rooms), some (.fz has_bars), none, none, none, none, none, none, none] = (foldV (vb__law_dungeon_1 has_bars) ds (bag, rooms)).bind fun s => .ok (.nx, [some (wl s.1), none, some (wl s.2), some (.fz has_bars), none, none, none, none, none, none, none]) := by
  refine forL_fold (t := fun s => [some (wl s.1), none, some (wl s.2), some (.fz has_bars), none, none, none, none, none, none, none])  (fun d s => ?_) ds (bag, rooms)
  · unfold gb__law_dungeon_1 vb__law_dungeon_1
    have h_e__law_some := @e__law_some; have h_e__law_take := @e__law_take; trivial
theorem cq__law_dungeon_2 (bag : List D) (rooms : List D) (has_bars : D) : compO [0] [10] false 2 (nameG [2, 0] 10) c__law_dungeon_2 ce__law_dungeon_2 [some (wl bag), none, some (wl rooms), some (.fz has_bars), none, none, none, none, none, none, none] = (mapV (vc__law_dungeon_2) rooms).bind fun l => .ok (.val (wl l), [some (wl bag), none, some (wl rooms), some (.fz has_bars), none, none, none, none, none, none, none]) := by
  refine comp_o [some (wl bag), none, some (wl rooms), some (.fz has_bars), none, none, none, none, none, none, none] [some (wl bag), none, some (wl rooms), some (.fz has_bars), none, none, none, none, none, none, none] rfl rfl rfl rfl (fun d => ?_)
  · unfold c__law_dungeon_2 ce__law_dungeon_2 vc__law_dungeon_2
    have h_lq__law_dungeon_1 := @lq__law_dungeon_1; have h_e__law_some := @e__law_some; have h_e__law_take := @e__law_take; trivial
theorem cq__law_dungeon_3 (bag : List D) (rooms : List D) (has_bars : D) (locks : D) : compO [0] [10] false 2 (nameG [2, 0] 10) c__law_dungeon_3 ce__law_dungeon_3 [some (wl bag), none, some (wl rooms), some (.fz has_bars), none, none, some (.fz locks), none, none, none, none] = (mapV (vc__law_dungeon_3) rooms).bind fun l => .ok (.val (wl l), [some (wl bag), none, some (wl rooms), some (.fz has_bars), none, none, some (.fz locks), none, none, none, none]) := by
  refine comp_o [some (wl bag), none, some (wl rooms), some (.fz has_bars), none, none, some (.fz locks), none, none, none, none] [some (wl bag), none, some (wl rooms), some (.fz has_bars), none, none, some (.fz locks), none, none, none, none] rfl rfl rfl rfl (fun d => ?_)
  · unfold c__law_dungeon_3 ce__law_dungeon_3 vc__law_dungeon_3
    have h_lq__law_dungeon_1 := @lq__law_dungeon_1; have h_cq__law_dungeon_2 := @cq__law_dungeon_2; have h_e__law_some := @e__law_some; have h_e__law_take := @e__law_take; trivial
theorem cq__law_dungeon_4 (bag : List D) (rooms : List D) (has_bars : D) (locks : D) (needed : D) : compO [0] [10] false 2 (nameG [2, 0] 10) c__law_dungeon_4 ce__law_dungeon_4 [some (wl bag), none, some (wl rooms), some (.fz has_bars), none, none, some (.fz locks), some (.fz needed), none, none, none] = (mapV (vc__law_dungeon_4) rooms).bind fun l => .ok (.val (wl l), [some (wl bag), none, some (wl rooms), some (.fz has_bars), none, none, some (.fz locks), some (.fz needed), none, none, none]) := by
  refine comp_o [some (wl bag), none, some (wl rooms), some (.fz has_bars), none, none, some (.fz locks), some (.fz needed), none, none, none] [some (wl bag), none, some (wl rooms), some (.fz has_bars), none, none, some (.fz locks), some (.fz needed), none, none, none] rfl rfl rfl rfl (fun d => ?_)
  · unfold c__law_dungeon_4 ce__law_dungeon_4 vc__law_dungeon_4
    have h_lq__law_dungeon_1 := @lq__law_dungeon_1; have h_cq__law_dungeon_2 := @cq__law_dungeon_2; have h_cq__law_dungeon_3 := @cq__law_dungeon_3; have h_e__law_some := @e__law_some; have h_e__law_take := @e__law_take; trivial
theorem e__law_dungeon (bag : List D) (most : D) : f__law_dungeon [wl bag, .fz most] = (v__law_dungeon bag most).bind fun r => .ok (.fz r.1, [wl r.2]) := by
  unfold f__law_dungeon g__law_dungeon v__law_dungeon
  rw [runF_e _ _ _ _ _ rfl]
  have h_lq__law_dungeon_1 := @lq__law_dungeon_1; have h_cq__law_dungeon_2 := @cq__law_dungeon_2; have h_cq__law_dungeon_3 := @cq__law_dungeon_3; have h_cq__law_dungeon_4 := @cq__law_dungeon_4; have h_e__law_some := @e__law_some; have h_e__law_take := @e__law_take; trivial
/-! _law_up -/
abbrev s__law_up : Stmt := top 20
abbrev N__law_up : List Str := ["dungeon", "v", "found", "step"]
def gb__law_up_1 : FS := (seqS (ifS (two (eSlot 1) (eLit .non) isnotS) (wipeS [3] (seqS (exS (mthF 2 (consA [] false (eSlot 1) nilA) appendM))
  (seqS (setS [] 1 false (two (two (two (eSlot 0) (eLit (.int 0)) idxS) (eSlot 1) idxS) (eLit (.int 0)) idxS))
  nxS))) (wipeS [3] nxS))
  nxS)
def g__law_up : FS := (seqS (setS [] 2 true (lstF nilA))
  (seqS (forS (rngF range1S (consA [] true (biF (consA [] true (two (eSlot 0) (eLit (.int 0)) idxS) nilA) lenS) nilA)) (nameG [] 3)
  gb__law_up_1)
  (seqS (retS [] (eSlot 2))
  nxS)))
def f__law_up : FV := runF 4 2 [] g__law_up
theorem b__law_up {X : Cx} (m_len : mg "len" = none) (m_range : mg "range" = none) (B : Bd X ⟨P, w, K, mg, base, N__law_up, defScope s__law_up, fun _ => true⟩ 0) : XB X [] (defBody s__law_up) g__law_up :=
  (xb_cons (B.set (own := true) (by kernel_rfl) rfl (xp_lst xa_nil))
  (xb_cons (B.for_ (fun _ => rfl) (B.range1 (by kernel_rfl) m_range rfl (xa_cons rfl (B.len (by kernel_rfl) m_len rfl (xa_cons rfl (xp_idx rfl (B.slot (by kernel_rfl)) xp_int) xa_nil)) xa_nil)) (B.gname (by kernel_rfl)) (xb_cons (xs_if (B.tisnot (B.slot (by kernel_rfl)) xp_non) (xb_wipe [3] (xb_cons (xs_expr rfl (B.append (by kernel_rfl) rfl rfl rfl rfl (xa_cons rfl (B.slot (by kernel_rfl)) xa_nil)))
  (xb_cons (B.set (own := false) (by kernel_rfl) rfl (xp_idx rfl (xp_idx rfl (xp_idx rfl (B.slot (by kernel_rfl)) xp_int) (B.slot (by kernel_rfl))) xp_int))
  xb_nil))) (xb_wipe [3] xb_nil))
  xb_nil))
  (xb_cons (xs_ret (B.slot (by kernel_rfl)))
  xb_nil)))
theorem sc__law_up : FnScope N__law_up ["dungeon", "v"] (defScope s__law_up) := ⟨rfl, rfl, rfl, by decide +kernel, rfl, by decide +kernel, by decide +kernel⟩
theorem k__law_up {f : Addr} {fd : FuncData} (m_len : mg "len" = none) (m_range : mg "range" = none) (F : FunD K "_law_up" "_law_up" (defArgs s__law_up) (defBody s__law_up) (defScope s__law_up) [] [] f fd) : FnG P w K mg base 1 f fd ["dungeon", "v"] (spP K 2 [] f__law_up) :=
  fn_ok (l := []) F sc__law_up fun X B => b__law_up m_len m_range B
theorem cal__law_up {f : Addr} {fd : FuncData} (m_len : mg "len" = none) (m_range : mg "range" = none) (F : FunD K "_law_up" "_law_up" (defArgs s__law_up) (defBody s__law_up) (defScope s__law_up) [] [] f fd) (hm : mg "_law_up" = some (.ref f)) : Cal (cd0 P w K mg base) 1 "_law_up" 2 [] f__law_up :=
  ⟨f, fd, ["dungeon", "v"], k__law_up m_len m_range F, hm, F.kp, F.bindsN fun _ _ _ _ _ _ us hl => match us, hl with | [_, _], _ => rfl⟩
theorem lq__law_up_1 (dungeon : D) (v : D) (found : List D) (ds : List D) : forL (nameG [] 3) gb__law_up_1 ds [some (.fz dungeon), some (.fz v), some (wl found), none] = (foldV (vb__law_up_1 dungeon) ds (v, found)).bind fun s => .ok (.nx, [some (.fz dungeon), some (.fz s.1), some (wl s.2), none]) := by
  refine forL_fold (t := fun s => [some (.fz dungeon), some (.fz s.1), some (wl s.2), none])  (fun d s => ?_) ds (v, found)
  · unfold gb__law_up_1 vb__law_up_1
    trivial
theorem e__law_up (dungeon : D) (v : D) : f__law_up [.fz dungeon, .fz v] = (v__law_up dungeon v).bind fun r => .ok (wl r, []) := by
  unfold f__law_up g__law_up v__law_up
  rw [runF_e _ _ _ _ _ rfl]
  have h_lq__law_up_1 := @lq__law_up_1; trivial
/-! _law_branch -/
abbrev s__law_branch : Stmt := top 21
abbrev N__law_branch : List Str := ["dungeon", "v", "u"]
def c__law_branch_1 : T → Res (Bool × T) := (tru (two (eSlot 1) (callF 2 [] f__law_up (consA [] false (eSlot 0) (consA [] false (eSlot 2) nilA))) (memS false)))
def ce__law_branch_1 : FP := (eSlot 2)
def g__law_branch : FS := (seqS (retS [] (compF [] [2] false (rngF range1S (consA [] true (biF (consA [] true (two (eSlot 0) (eLit (.int 0)) idxS) nilA) lenS) nilA)) (nameG [] 2) c__law_branch_1 ce__law_branch_1))
  nxS)
def f__law_branch : FV := runF 3 2 [] g__law_branch
theorem b__law_branch {X : Cx} (m_len : mg "len" = none) (m_range : mg "range" = none) (c__law_up : Cal (cd0 P w K mg base) 1 "_law_up" 2 [] f__law_up) (B : Bd X ⟨P, w, K, mg, base, N__law_branch, defScope s__law_branch, fun _ => true⟩ 1) : XB X [] (defBody s__law_branch) g__law_branch :=
  (xb_cons (xs_ret (B.comp [("u", 2)] (by kernel_rfl) (by kernel_rfl) (fun _ => rfl) (B.range1 (by kernel_rfl) m_range rfl (xa_cons rfl (B.len (by kernel_rfl) m_len rfl (xa_cons rfl (xp_idx rfl (B.slot (by kernel_rfl)) xp_int) xa_nil)) xa_nil)) (fun X1 B1 => ⟨(B1.gname (by kernel_rfl)), (xts_one (B1.tmem rfl (B1.slot (by kernel_rfl)) (B1.call ⟨c__law_up.ex⟩ (by decide) (by kernel_rfl) rfl (xa_cons rfl (B1.slot (by kernel_rfl)) (xa_cons rfl (B1.slot (by kernel_rfl)) xa_nil))))), (B1.slot (by kernel_rfl))⟩)))
  xb_nil)
theorem sc__law_branch : FnScope N__law_branch ["dungeon", "v"] (defScope s__law_branch) := ⟨rfl, rfl, rfl, by decide +kernel, rfl, by decide +kernel, by decide +kernel⟩
theorem k__law_branch {f : Addr} {fd : FuncData} (m_len : mg "len" = none) (m_range : mg "range" = none) (c__law_up : Cal (cd0 P w K mg base) 1 "_law_up" 2 [] f__law_up) (F : FunD K "_law_branch" "_law_branch" (defArgs s__law_branch) (defBody s__law_branch) (defScope s__law_branch) [] [] f fd) : FnG P w K mg base 2 f fd ["dungeon", "v"] (spP K 2 [] f__law_branch) :=
  fn_ok (l := []) F sc__law_branch fun X B => b__law_branch m_len m_range c__law_up B
theorem cal__law_branch {f : Addr} {fd : FuncData} (m_len : mg "len" = none) (m_range : mg "range" = none) (c__law_up : Cal (cd0 P w K mg base) 1 "_law_up" 2 [] f__law_up) (F : FunD K "_law_branch" "_law_branch" (defArgs s__law_branch) (defBody s__law_branch) (defScope s__law_branch) [] [] f fd) (hm : mg "_law_branch" = some (.ref f)) : Cal (cd0 P w K mg base) 2 "_law_branch" 2 [] f__law_branch :=
  ⟨f, fd, ["dungeon", "v"], k__law_branch m_len m_range c__law_up F, hm, F.kp, F.bindsN fun _ _ _ _ _ _ us hl => match us, hl with | [_, _], _ => rfl⟩
theorem cq__law_branch_1 (dungeon : D) (v : D) (ds : List D) : compK [] [2] false (nameG [] 2) c__law_branch_1 ce__law_branch_1 (ds, [some (.fz dungeon), some (.fz v), none]) = (mapV (vc__law_branch_1 dungeon v) ds).bind fun l => .ok (.val (wl l), [some (.fz dungeon), some (.fz v), none]) := by
  refine comp_v [some (.fz dungeon), some (.fz v), none] [some (.fz dungeon), some (.fz v), none] rfl rfl (fun d => ?_) ds
  · unfold c__law_branch_1 ce__law_branch_1 vc__law_branch_1
    have h_e__law_up := @e__law_up; trivial
theorem e__law_branch (dungeon : D) (v : D) : f__law_branch [.fz dungeon, .fz v] = (v__law_branch dungeon v).bind fun r => .ok (wl r, []) := by
  unfold f__law_branch g__law_branch v__law_branch
  rw [runF_e _ _ _ _ _ rfl]
  have h_cq__law_branch_1 := @cq__law_branch_1; have h_e__law_up := @e__law_up; trivial
/-! _law_stumps -/
abbrev s__law_stumps : Stmt := top 22
abbrev N__law_stumps : List Str := ["dungeon", "v", "found", "u", "parent", "way", "chests", "longer", "lot"]
def c__law_stumps_2 : T → Res (Bool × T) := (tru (boF true (two (eSlot 4) (eSlot 8) (memS true)) (two (eSlot 5) (eLit (.str "open")) neS)))
def ce__law_stumps_2 : FP := (eSlot 8)
def c__law_stumps_3 : T → Res (Bool × T) := (tru (two (eSlot 4) (eSlot 8) (memS false)))
def ce__law_stumps_3 : FP := (two (eSlot 8) (tupF (consA [] false (eSlot 3) nilA)) addS)
def gb__law_stumps_1 : FS := (wipeS [3, 4, 5, 6, 7] (seqS (asgS [] (tupG 3 (consG (nameG [] 4) (consG (nameG [] 5) (consG (nameG [] 6) nilG)))) (two (two (eSlot 0) (eLit (.int 0)) idxS) (eSlot 3) idxS))
  (seqS (setS [] 7 false (compF [] [8] false (itF [] (eSlot 2)) (nameG [] 8) c__law_stumps_2 ce__law_stumps_2))
  (seqS (setS [] 2 false (two (eSlot 7) (compF [] [8] false (itF [] (eSlot 2)) (nameG [] 8) c__law_stumps_3 ce__law_stumps_3) addS))
  nxS))))
def g__law_stumps : FS := (seqS (setS [] 2 false (lstF (consA [] false (tupF (consA [] false (eSlot 1) nilA)) nilA)))
  (seqS (forS (wipI [1] (itF [] (sliF (callF 2 [] f__law_branch (consA [] false (eSlot 0) (consA [] false (eSlot 1) nilA))) (someO (eLit (.int 1))) noneO))) (nameG [] 3)
  gb__law_stumps_1)
  (seqS (retZ [] (eSlot 2))
  nxS)))
def f__law_stumps : FV := runF 9 2 [] g__law_stumps
theorem b__law_stumps {X : Cx} (c__law_branch : Cal (cd0 P w K mg base) 2 "_law_branch" 2 [] f__law_branch) (B : Bd X ⟨P, w, K, mg, base, N__law_stumps, defScope s__law_stumps, fun _ => true⟩ 2) : XB X [] (defBody s__law_stumps) g__law_stumps :=
  (xb_cons (B.set (own := false) (by kernel_rfl) rfl (xp_lst (xa_cons rfl (xp_tup (xa_cons rfl (B.slot (by kernel_rfl)) xa_nil)) xa_nil)))
  (xb_cons (B.for_ (fun _ => rfl) (xi_wipe [1] (xi_it (xp_slice (B.call ⟨c__law_branch.ex⟩ (by decide) (by kernel_rfl) rfl (xa_cons rfl (B.slot (by kernel_rfl)) (xa_cons rfl (B.slot (by kernel_rfl)) xa_nil))) (xo_some xp_int) xo_none))) (B.gname (by kernel_rfl)) (xb_wipe [3, 4, 5, 6, 7] (xb_cons (B.asg rfl rfl rfl (B.gtup rfl (xgs_cons rfl (B.gname (by kernel_rfl)) (xgs_cons rfl (B.gname (by kernel_rfl)) (xgs_cons rfl (B.gname (by kernel_rfl)) xgs_nil)))) (xp_idx rfl (xp_idx rfl (B.slot (by kernel_rfl)) xp_int) (B.slot (by kernel_rfl))))
  (xb_cons (B.setLc (oo := false) [("lot", 8)] (by kernel_rfl) (by kernel_rfl) (by kernel_rfl) (by kernel_rfl) (by kernel_rfl) (by kernel_rfl) (by kernel_rfl) (fun _ => rfl) (xi_it (B.slot (by kernel_rfl))) (fun X1 B1 => ⟨(B1.gname (by kernel_rfl)), (xts_one (PW.pt (xw_or (B1.tnmem rfl (B1.slot (by kernel_rfl)) (B1.slot (by kernel_rfl))) (xw_or1 (B1.tne (B1.slot (by kernel_rfl)) xp_str))))), (B1.slot (by kernel_rfl))⟩))
  (xb_cons (B.set (own := false) (by kernel_rfl) rfl (xp_bin os_add (B.slot (by kernel_rfl)) (B.comp [("lot", 8)] (by kernel_rfl) (by kernel_rfl) (fun _ => rfl) (xi_it (B.slot (by kernel_rfl))) (fun X2 B2 => ⟨(B2.gname (by kernel_rfl)), (xts_one (B2.tmem rfl (B2.slot (by kernel_rfl)) (B2.slot (by kernel_rfl)))), (xp_bin os_add (B2.slot (by kernel_rfl)) (xp_tup (xa_cons rfl (B2.slot (by kernel_rfl)) xa_nil)))⟩))))
  xb_nil)))))
  (xb_cons (xs_retZ (B.slot (by kernel_rfl)))
  xb_nil)))
theorem sc__law_stumps : FnScope N__law_stumps ["dungeon", "v"] (defScope s__law_stumps) := ⟨rfl, rfl, rfl, by decide +kernel, rfl, by decide +kernel, by decide +kernel⟩
theorem k__law_stumps {f : Addr} {fd : FuncData} (c__law_branch : Cal (cd0 P w K mg base) 2 "_law_branch" 2 [] f__law_branch) (F : FunD K "_law_stumps" "_law_stumps" (defArgs s__law_stumps) (defBody s__law_stumps) (defScope s__law_stumps) [] [] f fd) : FnG P w K mg base 3 f fd ["dungeon", "v"] (spP K 2 [] f__law_stumps) :=
  fn_ok (l := []) F sc__law_stumps fun X B => b__law_stumps c__law_branch B
theorem cal__law_stumps {f : Addr} {fd : FuncData} (c__law_branch : Cal (cd0 P w K mg base) 2 "_law_branch" 2 [] f__law_branch) (F : FunD K "_law_stumps" "_law_stumps" (defArgs s__law_stumps) (defBody s__law_stumps) (defScope s__law_stumps) [] [] f fd) (hm : mg "_law_stumps" = some (.ref f)) : Cal (cd0 P w K mg base) 3 "_law_stumps" 2 [] f__law_stumps :=
  ⟨f, fd, ["dungeon", "v"], k__law_stumps c__law_branch F, hm, F.kp, F.bindsN fun _ _ _ _ _ _ us hl => match us, hl with | [_, _], _ => rfl⟩
theorem cq__law_stumps_2 (dungeon : D) (found : D) (u : D) (parent : D) (way : D) (chests : D) (ds : List D) : compK [] [8] false (nameG [] 8) c__law_stumps_2 ce__law_stumps_2 (ds, [some (.fz dungeon), none, some (.fz found), some (.fz u), some (.fz parent), some (.fz way), some (.fz chests), none, none]) = (mapV (vc__law_stumps_2 parent way) ds).bind fun l => .ok (.val (wl l), [some (.fz dungeon), none, some (.fz found), some (.fz u), some (.fz parent), some (.fz way), some (.fz chests), none, none]) := by
  refine comp_v [some (.fz dungeon), none, some (.fz found), some (.fz u), some (.fz parent), some (.fz way), some (.fz chests), none, none] [some (.fz dungeon), none, some (.fz found), some (.fz u), some (.fz parent), some (.fz way), some (.fz chests), none, none] rfl rfl (fun d => ?_) ds
  · unfold c__law_stumps_2 ce__law_stumps_2 vc__law_stumps_2
    have h_e__law_branch := @e__law_branch; trivial
theorem cq__law_stumps_3 (dungeon : D) (found : D) (u : D) (parent : D) (way : D) (chests : D) (longer : D) (ds : List D) : compK [] [8] false (nameG [] 8) c__law_stumps_3 ce__law_stumps_3 (ds, [some (.fz dungeon), none, some (.fz found), some (.fz u), some (.fz parent), some (.fz way), some (.fz chests), some (.fz longer), none]) = (mapV (vc__law_stumps_3 u parent) ds).bind fun l => .ok (.val (wl l), [some (.fz dungeon), none, some (.fz found), some (.fz u), some (.fz parent), some (.fz way), some (.fz chests), some (.fz longer), none]) := by
  refine comp_v [some (.fz dungeon), none, some (.fz found), some (.fz u), some (.fz parent), some (.fz way), some (.fz chests), some (.fz longer), none] [some (.fz dungeon), none, some (.fz found), some (.fz u), some (.fz parent), some (.fz way), some (.fz chests), some (.fz longer), none] rfl rfl (fun d => ?_) ds
  · unfold c__law_stumps_3 ce__law_stumps_3 vc__law_stumps_3
    have h_cq__law_stumps_2 := @cq__law_stumps_2; have h_e__law_branch := @e__law_branch; trivial
theorem lq__law_stumps_1 (dungeon : D) (found : D) (ds : List D) : forL (nameG [] 3) gb__law_stumps_1 ds [some (.fz dungeon), none, some (.fz found), none, none, none, none, none, none] = (foldV (vb__law_stumps_1 dungeon) ds found).bind fun s => .ok (.nx, [some (.fz dungeon), none, some (.fz s), none, none, none, none, none, none]) := by
  refine forL_fold (t := fun s => [some (.fz dungeon), none, some (.fz s), none, none, none, none, none, none])  (fun d s => ?_) ds found
  · unfold gb__law_stumps_1 vb__law_stumps_1
    have h_cq__law_stumps_2 := @cq__law_stumps_2; have h_cq__law_stumps_3 := @cq__law_stumps_3; have h_e__law_branch := @e__law_branch; trivial
theorem e__law_stumps (dungeon : D) (v : D) : f__law_stumps [.fz dungeon, .fz v] = (v__law_stumps dungeon v).bind fun r => .ok (.fz r, []) := by
  unfold f__law_stumps g__law_stumps v__law_stumps
  rw [runF_e _ _ _ _ _ rfl]
  have h_cq__law_stumps_2 := @cq__law_stumps_2; have h_cq__law_stumps_3 := @cq__law_stumps_3; have h_lq__law_stumps_1 := @lq__law_stumps_1; have h_e__law_branch := @e__law_branch; trivial
/-! _law_net -/
abbrev s__law_net : Stmt := top 17
abbrev N__law_net : List Str := ["dungeon", "small", "part", "v"]
def c__law_net_1 : T → Res (Bool × T) := yesT
def ce__law_net_1 : FP := (two (eSlot 1) (eSlot 3) idxS)
def c__law_net_2 : T → Res (Bool × T) := (tru (two (two (two (two (eSlot 0) (eLit (.int 0)) idxS) (eSlot 3) idxS) (eLit (.int 1)) idxS) (eLit (.str "lock")) eqS))
def ce__law_net_2 : FP := (eSlot 3)
def g__law_net : FS := (seqS (retZ [] (two (biF (consA [] true (compF [] [3] false (itF [] (eSlot 2)) (nameG [] 3) c__law_net_1 ce__law_net_1) nilA) sumS) (biF (consA [] true (compF [] [3] false (itF [] (eSlot 2)) (nameG [] 3) c__law_net_2 ce__law_net_2) nilA) lenS) subS))
  nxS)
def f__law_net : FV := runF 4 3 [] g__law_net
theorem b__law_net {X : Cx} (m_len : mg "len" = none) (m_sum : mg "sum" = none) (B : Bd X ⟨P, w, K, mg, base, N__law_net, defScope s__law_net, fun _ => true⟩ 0) : XB X [] (defBody s__law_net) g__law_net :=
  (xb_cons (xs_retZ (xp_bin os_sub (B.sum (by kernel_rfl) m_sum rfl (xa_cons rfl (B.comp [("v", 3)] (by kernel_rfl) (by kernel_rfl) (fun _ => rfl) (xi_it (B.slot (by kernel_rfl))) (fun X1 B1 => ⟨(B1.gname (by kernel_rfl)), xts_nil, (xp_idx rfl (B1.slot (by kernel_rfl)) (B1.slot (by kernel_rfl)))⟩)) xa_nil)) (B.len (by kernel_rfl) m_len rfl (xa_cons rfl (B.comp [("v", 3)] (by kernel_rfl) (by kernel_rfl) (fun _ => rfl) (xi_it (B.slot (by kernel_rfl))) (fun X2 B2 => ⟨(B2.gname (by kernel_rfl)), (xts_one (B2.teq (xp_idx rfl (xp_idx rfl (xp_idx rfl (B2.slot (by kernel_rfl)) xp_int) (B2.slot (by kernel_rfl))) xp_int) xp_str)), (B2.slot (by kernel_rfl))⟩)) xa_nil))))
  xb_nil)
theorem sc__law_net : FnScope N__law_net ["dungeon", "small", "part"] (defScope s__law_net) := ⟨rfl, rfl, rfl, by decide +kernel, rfl, by decide +kernel, by decide +kernel⟩
theorem k__law_net {f : Addr} {fd : FuncData} (m_len : mg "len" = none) (m_sum : mg "sum" = none) (F : FunD K "_law_net" "_law_net" (defArgs s__law_net) (defBody s__law_net) (defScope s__law_net) [] [] f fd) : FnG P w K mg base 1 f fd ["dungeon", "small", "part"] (spP K 3 [] f__law_net) :=
  fn_ok (l := []) F sc__law_net fun X B => b__law_net m_len m_sum B
theorem cal__law_net {f : Addr} {fd : FuncData} (m_len : mg "len" = none) (m_sum : mg "sum" = none) (F : FunD K "_law_net" "_law_net" (defArgs s__law_net) (defBody s__law_net) (defScope s__law_net) [] [] f fd) (hm : mg "_law_net" = some (.ref f)) : Cal (cd0 P w K mg base) 1 "_law_net" 3 [] f__law_net :=
  ⟨f, fd, ["dungeon", "small", "part"], k__law_net m_len m_sum F, hm, F.kp, F.bindsN fun _ _ _ _ _ _ us hl => match us, hl with | [_, _, _], _ => rfl⟩
theorem cq__law_net_1 (dungeon : D) (small : D) (part : D) (ds : List D) : compK [] [3] false (nameG [] 3) c__law_net_1 ce__law_net_1 (ds, [some (.fz dungeon), some (.fz small), some (.fz part), none]) = (mapV (vc__law_net_1 small) ds).bind fun l => .ok (.val (wl l), [some (.fz dungeon), some (.fz small), some (.fz part), none]) := by
  refine comp_v [some (.fz dungeon), some (.fz small), some (.fz part), none] [some (.fz dungeon), some (.fz small), some (.fz part), none] rfl rfl (fun d => ?_) ds
  · unfold c__law_net_1 ce__law_net_1 vc__law_net_1
    trivial
theorem cq__law_net_2 (dungeon : D) (small : D) (part : D) (ds : List D) : compK [] [3] false (nameG [] 3) c__law_net_2 ce__law_net_2 (ds, [some (.fz dungeon), some (.fz small), some (.fz part), none]) = (mapV (vc__law_net_2 dungeon) ds).bind fun l => .ok (.val (wl l), [some (.fz dungeon), some (.fz small), some (.fz part), none]) := by
  refine comp_v [some (.fz dungeon), some (.fz small), some (.fz part), none] [some (.fz dungeon), some (.fz small), some (.fz part), none] rfl rfl (fun d => ?_) ds
  · unfold c__law_net_2 ce__law_net_2 vc__law_net_2
    have h_cq__law_net_1 := @cq__law_net_1; trivial
theorem e__law_net (dungeon : D) (small : D) (part : D) : f__law_net [.fz dungeon, .fz small, .fz part] = (v__law_net dungeon small part).bind fun r => .ok (.fz r, []) := by
  unfold f__law_net g__law_net v__law_net
  rw [runF_e _ _ _ _ _ rfl]
  have h_cq__law_net_1 := @cq__law_net_1; have h_cq__law_net_2 := @cq__law_net_2; trivial
/-! _law_least -/
abbrev s__law_least : Stmt := top 23
abbrev N__law_least : List Str := ["values"]
def g__law_least : FS := (seqS (retZ [] (iteF (two (eSlot 0) (lstF nilA) neS) (biF (consA [] true (eSlot 0) nilA) minS) (eLit .non)))
  nxS)
def f__law_least : FV := runF 1 1 [] g__law_least
theorem b__law_least {X : Cx} (m_min : mg "min" = none) (B : Bd X ⟨P, w, K, mg, base, N__law_least, defScope s__law_least, fun _ => true⟩ 0) : XB X [] (defBody s__law_least) g__law_least :=
  (xb_cons (xs_retZ (xp_ite (B.tne (B.slot (by kernel_rfl)) (xp_lst xa_nil)) (B.min (by kernel_rfl) m_min rfl (xa_cons rfl (B.slot (by kernel_rfl)) xa_nil)) xp_non))
  xb_nil)
theorem sc__law_least : FnScope N__law_least ["values"] (defScope s__law_least) := ⟨rfl, rfl, rfl, by decide +kernel, rfl, by decide +kernel, by decide +kernel⟩
theorem k__law_least {f : Addr} {fd : FuncData} (m_min : mg "min" = none) (F : FunD K "_law_least" "_law_least" (defArgs s__law_least) (defBody s__law_least) (defScope s__law_least) [] [] f fd) : FnG P w K mg base 1 f fd ["values"] (spP K 1 [] f__law_least) :=
  fn_ok (l := []) F sc__law_least fun X B => b__law_least m_min B
theorem cal__law_least {f : Addr} {fd : FuncData} (m_min : mg "min" = none) (F : FunD K "_law_least" "_law_least" (defArgs s__law_least) (defBody s__law_least) (defScope s__law_least) [] [] f fd) (hm : mg "_law_least" = some (.ref f)) : Cal (cd0 P w K mg base) 1 "_law_least" 1 [] f__law_least :=
  ⟨f, fd, ["values"], k__law_least m_min F, hm, F.kp, F.bindsN fun _ _ _ _ _ _ us hl => match us, hl with | [_], _ => rfl⟩
theorem e__law_least (values : D) : f__law_least [.fz values] = (v__law_least values).bind fun r => .ok (.fz r, []) := by
  unfold f__law_least g__law_least v__law_least
  rw [runF_e _ _ _ _ _ rfl]
  trivial
/-! _law_row -/
abbrev s__law_row : Stmt := top 24
abbrev N__law_row : List Str := ["dungeon", "laid", "v", "big", "small", "branch", "nets", "bars", "lot", "number", "lacks", "due", "u", "part"]
def c__law_row_1 : T → Res (Bool × T) := (tru (boF false (two (two (two (two (eSlot 0) (eLit (.int 0)) idxS) (eSlot 12) idxS) (eLit (.int 1)) idxS) (eLit (.str "bar")) eqS) (two (eSlot 12) (eSlot 2) neS)))
def ce__law_row_1 : FP := (eSlot 12)
def c__law_row_3 : T → Res (Bool × T) := (tru (two (eSlot 12) (eSlot 8) (memS false)))
def ce__law_row_3 : FP := (eSlot 12)
def c__law_row_4 : T → Res (Bool × T) := (tru (two (two (two (two (eSlot 0) (eLit (.int 0)) idxS) (eSlot 12) idxS) (eLit (.int 0)) idxS) (eSlot 8) (memS false)))
def ce__law_row_4 : FP := (eSlot 12)
def c__law_row_5 : T → Res (Bool × T) := (tru (two (eSlot 12) (eSlot 3) eqS))
def ce__law_row_5 : FP := (eSlot 12)
def c__law_row_6 : T → Res (Bool × T) := (tru (two (eSlot 12) (eSlot 8) (memS true)))
def ce__law_row_6 : FP := (eSlot 12)
def gb__law_row_2 : FS := (seqS (parS [] [9, 10] (consL [] false (callF 3 [] f__law_net (consA [] false (eSlot 0) (consA [] false (eSlot 4) (consA [] false (eSlot 8) nilA)))) (consL [] false (two (biF (consA [] true (eSlot 8) nilA) lenS) (biF (consA [] true (eSlot 5) nilA) lenS) ltS) nilL)))
  (seqS (ifS (boF false (two (eSlot 3) (eSlot 8) (memS true)) (two (compF [] [12] false (itF [] (eSlot 7)) (nameG [] 12) c__law_row_3 ce__law_row_3) (lstF nilA) eqS)) (seqS (exS (nappF 6 (qLit (.int 0)) (qSlot 9)))
  (seqS (exS (nmtF 6 (qLit (.int 1)) (consA [] false (two (lstF (consA [] false (eSlot 9) nilA)) (biF (consA [] true (eSlot 10) nilA) intS) mulS) nilA) extendM))
  nxS)) nxS)
  (seqS (setS [] 11 false (two (compF [] [12] false (itF [] (eSlot 7)) (nameG [] 12) c__law_row_4 ce__law_row_4) (compF [] [12] false (itF [] (eSlot 5)) (nameG [] 12) c__law_row_5 ce__law_row_5) addS))
  (seqS (ifS (boF false (two (eSlot 3) (eLit .non) isnotS) (two (compF [] [12] false (itF [] (eSlot 11)) (nameG [] 12) c__law_row_6 ce__law_row_6) (lstF nilA) eqS)) (wipeS [8, 9, 10, 11] (seqS (exS (nappF 6 (qLit (.int 2)) (qSlot 9)))
  (seqS (exS (nmtF 6 (qLit (.int 3)) (consA [] false (two (lstF (consA [] false (eSlot 9) nilA)) (biF (consA [] true (eSlot 10) nilA) intS) mulS) nilA) extendM))
  nxS))) (wipeS [8, 9, 10, 11] nxS))
  nxS))))
def c__law_row_7 : T → Res (Bool × T) := yesT
def ce__law_row_7 : FP := (callF 1 [] f__law_least (consA [] false (eSlot 13) nilA))
def g__law_row : FS := (seqS (Pf.parM (consL [] false (eSlot 1) (consL [] false (callF 2 [] f__law_branch (consA [] false (eSlot 0) (consA [] false (eSlot 2) nilA))) (consL [] true (lstO (consL [] true (lstF nilA) (consL [] true (lstF nilA) (consL [] true (lstF nilA) (consL [] true (lstF nilA) nilL))))) nilL))) (lenM 3 (fzM (tupG 2 (consG (nameG [] 3) (consG (nameG [] 4) nilG))) (nameM [] 5 (nameM [] 6 nilM)))))
  (seqS (setS [] 7 false (compF [] [12] false (itF [] (eSlot 5)) (nameG [] 12) c__law_row_1 ce__law_row_1))
  (seqS (forS (wipI [1, 2] (itF [] (callF 2 [] f__law_stumps (consA [] false (eSlot 0) (consA [] false (eSlot 2) nilA))))) (nameG [] 8)
  gb__law_row_2)
  (seqS (retZ [] (biF (consA [] true (compF [] [13] false (itF [] (eSlot 6)) (nameG [] 13) c__law_row_7 ce__law_row_7) nilA) tupS))
  nxS))))
def f__law_row : FV := runF 14 3 [] g__law_row
theorem b__law_row {X : Cx} (m_int : mg "int" = none) (m_len : mg "len" = none) (m_tuple : mg "tuple" = none) (c__law_branch : Cal (cd0 P w K mg base) 2 "_law_branch" 2 [] f__law_branch) (c__law_stumps : Cal (cd0 P w K mg base) 3 "_law_stumps" 2 [] f__law_stumps) (c__law_net : Cal (cd0 P w K mg base) 1 "_law_net" 3 [] f__law_net) (c__law_least : Cal (cd0 P w K mg base) 1 "_law_least" 1 [] f__law_least) (B : Bd X ⟨P, w, K, mg, base, N__law_row, defScope s__law_row, fun _ => true⟩ 3) : XB X [] (defBody s__law_row) g__law_row :=
  (xb_cons (B.parM (by kernel_rfl) (by kernel_rfl) (by kernel_rfl) (by decide) (xm_fz rfl (B.gtup rfl (xgs_cons rfl (B.gname (by kernel_rfl)) (xgs_cons rfl (B.gname (by kernel_rfl)) xgs_nil))) (B.mname (by kernel_rfl) (B.mname (by kernel_rfl) xm_nil))) (xl_cons rfl (B.slot (by kernel_rfl)) (xl_cons rfl (B.call ⟨c__law_branch.ex⟩ (by decide) (by kernel_rfl) rfl (xa_cons rfl (B.slot (by kernel_rfl)) (xa_cons rfl (B.slot (by kernel_rfl)) xa_nil))) (xl_cons rfl (xp_lstO (xl_cons rfl (xp_lst xa_nil) (xl_cons rfl (xp_lst xa_nil) (xl_cons rfl (xp_lst xa_nil) (xl_cons rfl (xp_lst xa_nil) xl_nil))))) xl_nil))))
  (xb_cons (B.setLc (oo := false) [("u", 12)] (by kernel_rfl) (by kernel_rfl) (by kernel_rfl) (by kernel_rfl) (by kernel_rfl) (by kernel_rfl) (by kernel_rfl) (fun _ => rfl) (xi_it (B.slot (by kernel_rfl))) (fun X1 B1 => ⟨(B1.gname (by kernel_rfl)), (xts_one (PW.pt (xw_and (B1.teq (xp_idx rfl (xp_idx rfl (xp_idx rfl (B1.slot (by kernel_rfl)) xp_int) (B1.slot (by kernel_rfl))) xp_int) xp_str) (xw_and1 (B1.tne (B1.slot (by kernel_rfl)) (B1.slot (by kernel_rfl))))))), (B1.slot (by kernel_rfl))⟩))
  (xb_cons (B.for_ (fun _ => rfl) (xi_wipe [1, 2] (xi_it (B.call ⟨c__law_stumps.ex⟩ (by decide) (by kernel_rfl) rfl (xa_cons rfl (B.slot (by kernel_rfl)) (xa_cons rfl (B.slot (by kernel_rfl)) xa_nil))))) (B.gname (by kernel_rfl)) (xb_cons (B.par2 (by kernel_rfl) (by kernel_rfl) (by kernel_rfl) (by kernel_rfl) (by kernel_rfl) (by kernel_rfl) (by kernel_rfl) (by kernel_rfl) (xl_cons rfl (B.call ⟨c__law_net.ex⟩ (by decide) (by kernel_rfl) rfl (xa_cons rfl (B.slot (by kernel_rfl)) (xa_cons rfl (B.slot (by kernel_rfl)) (xa_cons rfl (B.slot (by kernel_rfl)) xa_nil)))) (xl_cons rfl (B.lt (B.len (by kernel_rfl) m_len rfl (xa_cons rfl (B.slot (by kernel_rfl)) xa_nil)) (B.len (by kernel_rfl) m_len rfl (xa_cons rfl (B.slot (by kernel_rfl)) xa_nil))) xl_nil)))
  (xb_cons (xs_if (PW.pt (xw_and (B.tnmem rfl (B.slot (by kernel_rfl)) (B.slot (by kernel_rfl))) (xw_and1 (B.teq (B.comp [("u", 12)] (by kernel_rfl) (by kernel_rfl) (fun _ => rfl) (xi_it (B.slot (by kernel_rfl))) (fun X2 B2 => ⟨(B2.gname (by kernel_rfl)), (xts_one (B2.tmem rfl (B2.slot (by kernel_rfl)) (B2.slot (by kernel_rfl)))), (B2.slot (by kernel_rfl))⟩)) (xp_lst xa_nil))))) (xb_cons (xs_expr rfl (B.napp (by kernel_rfl) rfl rfl rfl rfl xq_int (B.qslot (by kernel_rfl))))
  (xb_cons (xs_expr rfl (B.nextend (by kernel_rfl) rfl rfl rfl rfl xq_int (xa_cons rfl (xp_bin os_mul (xp_lst (xa_cons rfl (B.slot (by kernel_rfl)) xa_nil)) (B.int (by kernel_rfl) m_int rfl (xa_cons rfl (B.slot (by kernel_rfl)) xa_nil))) xa_nil)))
  xb_nil)) xb_nil)
  (xb_cons (B.set (own := false) (by kernel_rfl) rfl (xp_bin os_add (B.comp [("u", 12)] (by kernel_rfl) (by kernel_rfl) (fun _ => rfl) (xi_it (B.slot (by kernel_rfl))) (fun X3 B3 => ⟨(B3.gname (by kernel_rfl)), (xts_one (B3.tmem rfl (xp_idx rfl (xp_idx rfl (xp_idx rfl (B3.slot (by kernel_rfl)) xp_int) (B3.slot (by kernel_rfl))) xp_int) (B3.slot (by kernel_rfl)))), (B3.slot (by kernel_rfl))⟩)) (B.comp [("u", 12)] (by kernel_rfl) (by kernel_rfl) (fun _ => rfl) (xi_it (B.slot (by kernel_rfl))) (fun X4 B4 => ⟨(B4.gname (by kernel_rfl)), (xts_one (B4.teq (B4.slot (by kernel_rfl)) (B4.slot (by kernel_rfl)))), (B4.slot (by kernel_rfl))⟩))))
  (xb_cons (xs_if (PW.pt (xw_and (B.tisnot (B.slot (by kernel_rfl)) xp_non) (xw_and1 (B.teq (B.comp [("u", 12)] (by kernel_rfl) (by kernel_rfl) (fun _ => rfl) (xi_it (B.slot (by kernel_rfl))) (fun X5 B5 => ⟨(B5.gname (by kernel_rfl)), (xts_one (B5.tnmem rfl (B5.slot (by kernel_rfl)) (B5.slot (by kernel_rfl)))), (B5.slot (by kernel_rfl))⟩)) (xp_lst xa_nil))))) (xb_wipe [8, 9, 10, 11] (xb_cons (xs_expr rfl (B.napp (by kernel_rfl) rfl rfl rfl rfl xq_int (B.qslot (by kernel_rfl))))
  (xb_cons (xs_expr rfl (B.nextend (by kernel_rfl) rfl rfl rfl rfl xq_int (xa_cons rfl (xp_bin os_mul (xp_lst (xa_cons rfl (B.slot (by kernel_rfl)) xa_nil)) (B.int (by kernel_rfl) m_int rfl (xa_cons rfl (B.slot (by kernel_rfl)) xa_nil))) xa_nil)))
  xb_nil))) (xb_wipe [8, 9, 10, 11] xb_nil))
  xb_nil)))))
  (xb_cons (xs_retZ (B.tuple (by kernel_rfl) m_tuple rfl (xa_cons rfl (B.comp [("part", 13)] (by kernel_rfl) (by kernel_rfl) (fun _ => rfl) (xi_it (B.slot (by kernel_rfl))) (fun X6 B6 => ⟨(B6.gname (by kernel_rfl)), xts_nil, (B6.call ⟨c__law_least.ex⟩ (by decide) (by kernel_rfl) rfl (xa_cons rfl (B6.slot (by kernel_rfl)) xa_nil))⟩)) xa_nil)))
  xb_nil))))
theorem sc__law_row : FnScope N__law_row ["dungeon", "laid", "v"] (defScope s__law_row) := ⟨rfl, rfl, rfl, by decide +kernel, rfl, by decide +kernel, by decide +kernel⟩
theorem k__law_row {f : Addr} {fd : FuncData} (m_int : mg "int" = none) (m_len : mg "len" = none) (m_tuple : mg "tuple" = none) (c__law_branch : Cal (cd0 P w K mg base) 2 "_law_branch" 2 [] f__law_branch) (c__law_stumps : Cal (cd0 P w K mg base) 3 "_law_stumps" 2 [] f__law_stumps) (c__law_net : Cal (cd0 P w K mg base) 1 "_law_net" 3 [] f__law_net) (c__law_least : Cal (cd0 P w K mg base) 1 "_law_least" 1 [] f__law_least) (F : FunD K "_law_row" "_law_row" (defArgs s__law_row) (defBody s__law_row) (defScope s__law_row) [] [] f fd) : FnG P w K mg base 4 f fd ["dungeon", "laid", "v"] (spP K 3 [] f__law_row) :=
  fn_ok (l := []) F sc__law_row fun X B => b__law_row m_int m_len m_tuple c__law_branch c__law_stumps c__law_net c__law_least B
theorem cal__law_row {f : Addr} {fd : FuncData} (m_int : mg "int" = none) (m_len : mg "len" = none) (m_tuple : mg "tuple" = none) (c__law_branch : Cal (cd0 P w K mg base) 2 "_law_branch" 2 [] f__law_branch) (c__law_stumps : Cal (cd0 P w K mg base) 3 "_law_stumps" 2 [] f__law_stumps) (c__law_net : Cal (cd0 P w K mg base) 1 "_law_net" 3 [] f__law_net) (c__law_least : Cal (cd0 P w K mg base) 1 "_law_least" 1 [] f__law_least) (F : FunD K "_law_row" "_law_row" (defArgs s__law_row) (defBody s__law_row) (defScope s__law_row) [] [] f fd) (hm : mg "_law_row" = some (.ref f)) : Cal (cd0 P w K mg base) 4 "_law_row" 3 [] f__law_row :=
  ⟨f, fd, ["dungeon", "laid", "v"], k__law_row m_int m_len m_tuple c__law_branch c__law_stumps c__law_net c__law_least F, hm, F.kp, F.bindsN fun _ _ _ _ _ _ us hl => match us, hl with | [_, _, _], _ => rfl⟩
theorem cq__law_row_1 (dungeon : D) (laid : D) (v : D) (big : D) (small : D) (branch : D) (nets : List (List D)) (ds : List D) : compK [] [12] false (nameG [] 12) c__law_row_1 ce__law_row_1 (ds, [some (.fz dungeon), some (.fz laid), some (.fz v), some (.fz big), some (.fz small), some (.fz branch), some (wll nets), none, none, none, none, none, none, none]) = (mapV (vc__law_row_1 dungeon v) ds).bind fun l => .ok (.val (wl l), [some (.fz dungeon), some (.fz laid), some (.fz v), some (.fz big), some (.fz small), some (.fz branch), some (wll nets), none, none, none, none, none, none, none]) := by
  refine comp_v [some (.fz dungeon), some (.fz laid), some (.fz v), some (.fz big), some (.fz small), some (.fz branch), some (wll nets), none, none, none, none, none, none, none] [some (.fz dungeon), some (.fz laid), some (.fz v), some (.fz big), some (.fz small), some (.fz branch), some (wll nets), none, none, none, none, none, none, none] rfl rfl (fun d => ?_) ds
  · unfold c__law_row_1 ce__law_row_1 vc__law_row_1
    have h_e__law_branch := @e__law_branch; have h_e__law_stumps := @e__law_stumps; have h_e__law_net := @e__law_net; have h_e__law_least := @e__law_least; trivial
theorem cq__law_row_3 (dungeon : D) (big : D) (small : D) (branch : D) (nets : List (List D)) (bars : D) (lot : D) (number : D) (lacks : D) (ds : List D) : compK [] [12] false (nameG [] 12) c__law_row_3 ce__law_row_3 (ds, [some (.fz dungeon), none, none, some (.fz big), some (.fz small), some (.fz branch), some (wll nets), some (.fz bars), some (.fz lot), some (.fz number), some (.fz lacks), none, none, none]) = (mapV (vc__law_row_3 lot) ds).bind fun l => .ok (.val (wl l), [some (.fz dungeon), none, none, some (.fz big), some (.fz small), some (.fz branch), some (wll nets), some (.fz bars), some (.fz lot), some (.fz number), some (.fz lacks), none, none, none]) := by
  refine comp_v [some (.fz dungeon), none, none, some (.fz big), some (.fz small), some (.fz branch), some (wll nets), some (.fz bars), some (.fz lot), some (.fz number), some (.fz lacks), none, none, none] [some (.fz dungeon), none, none, some (.fz big), some (.fz small), some (.fz branch), some (wll nets), some (.fz bars), some (.fz lot), some (.fz number), some (.fz lacks), none, none, none] rfl rfl (fun d => ?_) ds
  · unfold c__law_row_3 ce__law_row_3 vc__law_row_3
    have h_cq__law_row_1 := @cq__law_row_1; have h_e__law_branch := @e__law_branch; have h_e__law_stumps := @e__law_stumps; have h_e__law_net := @e__law_net; have h_e__law_least := @e__law_least; trivial
theorem cq__law_row_4 (dungeon : D) (big : D) (small : D) (branch : D) (nets : List (List D)) (bars : D) (lot : D) (number : D) (lacks : D) (ds : List D) : compK [] [12] false (nameG [] 12) c__law_row_4 ce__law_row_4 (ds, [some (.fz dungeon), none, none, some (.fz big), some (.fz small), some (.fz branch), some (wll nets), some (.fz bars), some (.fz lot), some (.fz number), some (.fz lacks), none, none, none]) = (mapV (vc__law_row_4 dungeon lot) ds).bind fun l => .ok (.val (wl l), [some (.fz dungeon), none, none, some (.fz big), some (.fz small), some (.fz branch), some (wll nets), some (.fz bars), some (.fz lot), some (.fz number), some (.fz lacks), none, none, none]) := by
  refine comp_v [some (.fz dungeon), none, none, some (.fz big), some (.fz small), some (.fz branch), some (wll nets), some (.fz bars), some (.fz lot), some (.fz number), some (.fz lacks), none, none, none] [some (.fz dungeon), none, none, some (.fz big), some (.fz small), some (.fz branch), some (wll nets), some (.fz bars), some (.fz lot), some (.fz number), some (.fz lacks), none, none, none] rfl rfl (fun d => ?_) ds
  · unfold c__law_row_4 ce__law_row_4 vc__law_row_4
    have h_cq__law_row_1 := @cq__law_row_1; have h_cq__law_row_3 := @cq__law_row_3; have h_e__law_branch := @e__law_branch; have h_e__law_stumps := @e__law_stumps; have h_e__law_net := @e__law_net; have h_e__law_least := @e__law_least; trivial
theorem cq__law_row_5 (dungeon : D) (big : D) (small : D) (branch : D) (nets : List (List D)) (bars : D) (lot : D) (number : D) (lacks : D) (ds : List D) : compK [] [12] false (nameG [] 12) c__law_row_5 ce__law_row_5 (ds, [some (.fz dungeon), none, none, some (.fz big), some (.fz small), some (.fz branch), some (wll nets), some (.fz bars), some (.fz lot), some (.fz number), some (.fz lacks), none, none, none]) = (mapV (vc__law_row_5 big) ds).bind fun l => .ok (.val (wl l), [some (.fz dungeon), none, none, some (.fz big), some (.fz small), some (.fz branch), some (wll nets), some (.fz bars), some (.fz lot), some (.fz number), some (.fz lacks), none, none, none]) := by
  refine comp_v [some (.fz dungeon), none, none, some (.fz big), some (.fz small), some (.fz branch), some (wll nets), some (.fz bars), some (.fz lot), some (.fz number), some (.fz lacks), none, none, none] [some (.fz dungeon), none, none, some (.fz big), some (.fz small), some (.fz branch), some (wll nets), some (.fz bars), some (.fz lot), some (.fz number), some (.fz lacks), none, none, none] rfl rfl (fun d => ?_) ds
  · unfold c__law_row_5 ce__law_row_5 vc__law_row_5
    have h_cq__law_row_1 := @cq__law_row_1; have h_cq__law_row_3 := @cq__law_row_3; have h_cq__law_row_4 := @cq__law_row_4; have h_e__law_branch := @e__law_branch; have h_e__law_stumps := @e__law_stumps; have h_e__law_net := @e__law_net; have h_e__law_least := @e__law_least; trivial
theorem cq__law_row_6 (dungeon : D) (big : D) (small : D) (branch : D) (nets : List (List D)) (bars : D) (lot : D) (number : D) (lacks : D) (due : D) (ds : List D) : compK [] [12] false (nameG [] 12) c__law_row_6 ce__law_row_6 (ds, [some (.fz dungeon), none, none, some (.fz big), some (.fz small), some (.fz branch), some (wll nets), some (.fz bars), some (.fz lot), some (.fz number), some (.fz lacks), some (.fz due), none, none]) = (mapV (vc__law_row_6 lot) ds).bind fun l => .ok (.val (wl l), [some (.fz dungeon), none, none, some (.fz big), some (.fz small), some (.fz branch), some (wll nets), some (.fz bars), some (.fz lot), some (.fz number), some (.fz lacks), some (.fz due), none, none]) := by
  refine comp_v [some (.fz dungeon), none, none, some (.fz big), some (.fz small), some (.fz branch), some (wll nets), some (.fz bars), some (.fz lot), some (.fz number), some (.fz lacks), some (.fz due), none, none] [some (.fz dungeon), none, none, some (.fz big), some (.fz small), some (.fz branch), some (wll nets), some (.fz bars), some (.fz lot), some (.fz number), some (.fz lacks), some (.fz due), none, none] rfl rfl (fun d => ?_) ds
  · unfold c__law_row_6 ce__law_row_6 vc__law_row_6
    have h_cq__law_row_1 := @cq__law_row_1; have h_cq__law_row_3 := @cq__law_row_3; have h_cq__law_row_4 := @cq__law_row_4; have h_cq__law_row_5 := @cq__law_row_5; have h_e__law_branch := @e__law_branch; have h_e__law_stumps := @e__law_stumps; have h_e__law_net := @e__law_net; have h_e__law_least := @e__law_least; trivial
theorem lq__law_row_2 (dungeon : D) (big : D) (small : D) (branch : D) (nets : List (List D)) (bars : D) (ds : List D) : forL (nameG [] 8) gb__law_row_2 ds [some (.fz dungeon), none, none, some (.fz big), some (.fz small), some (.fz branch), some (wll nets), some (.fz bars), none, none, none, none, none, none] = (foldV (vb__law_row_2 dungeon big small branch bars) ds nets).bind fun s => .ok (.nx, [some (.fz dungeon), none, none, some (.fz big), some (.fz small), some (.fz branch), some (wll s), some (.fz bars), none, none, none, none, none, none]) := by
  refine forL_fold (t := fun s => [some (.fz dungeon), none, none, some (.fz big), some (.fz small), some (.fz branch), some (wll s), some (.fz bars), none, none, none, none, none, none])  (fun d s => ?_) ds nets
  · unfold gb__law_row_2 vb__law_row_2
    have h_cq__law_row_1 := @cq__law_row_1; have h_cq__law_row_3 := @cq__law_row_3; have h_cq__law_row_4 := @cq__law_row_4; have h_cq__law_row_5 := @cq__law_row_5; have h_cq__law_row_6 := @cq__law_row_6; have h_e__law_branch := @e__law_branch; have h_e__law_stumps := @e__law_stumps; have h_e__law_net := @e__law_net; have h_e__law_least := @e__law_least; trivial
theorem cq__law_row_7 (dungeon : D) (big : D) (small : D) (branch : D) (nets : D) (bars : D) (ds : List D) : compK [] [13] false (nameG [] 13) c__law_row_7 ce__law_row_7 (ds, [some (.fz dungeon), none, none, some (.fz big), some (.fz small), some (.fz branch), some (.fz nets), some (.fz bars), none, none, none, none, none, none]) = (mapV (vc__law_row_7) ds).bind fun l => .ok (.val (wl l), [some (.fz dungeon), none, none, some (.fz big), some (.fz small), some (.fz branch), some (.fz nets), some (.fz bars), none, none, none, none, none, none]) := by
  refine comp_v [some (.fz dungeon), none, none, some (.fz big), some (.fz small), some (.fz branch), some (.fz nets), some (.fz bars), none, none, none, none, none, none] [some (.fz dungeon), none, none, some (.fz big), some (.fz small), some (.fz branch), some (.fz nets), some (.fz bars), none, none, none, none, none, none] rfl rfl (fun d => ?_) ds
  · unfold c__law_row_7 ce__law_row_7 vc__law_row_7
    have h_cq__law_row_1 := @cq__law_row_1; have h_cq__law_row_3 := @cq__law_row_3; have h_cq__law_row_4 := @cq__law_row_4; have h_cq__law_row_5 := @cq__law_row_5; have h_cq__law_row_6 := @cq__law_row_6; have h_lq__law_row_2 := @lq__law_row_2; have h_e__law_branch := @e__law_branch; have h_e__law_stumps := @e__law_stumps; have h_e__law_net := @e__law_net; have h_e__law_least := @e__law_least; trivial
theorem e__law_row (dungeon : D) (laid : D) (v : D) : f__law_row [.fz dungeon, .fz laid, .fz v] = (v__law_row dungeon laid v).bind fun r => .ok (.fz r, []) := by
  unfold f__law_row g__law_row v__law_row
  rw [runF_e _ _ _ _ _ rfl]
  have h_cq__law_row_1 := @cq__law_row_1; have h_cq__law_row_3 := @cq__law_row_3; have h_cq__law_row_4 := @cq__law_row_4; have h_cq__law_row_5 := @cq__law_row_5; have h_cq__law_row_6 := @cq__law_row_6; have h_lq__law_row_2 := @lq__law_row_2; have h_cq__law_row_7 := @cq__law_row_7; have h_e__law_branch := @e__law_branch; have h_e__law_stumps := @e__law_stumps; have h_e__law_net := @e__law_net; have h_e__law_least := @e__law_least; trivial
/-! _law_table -/
abbrev s__law_table : Stmt := top 25
abbrev N__law_table : List Str := ["dungeon", "laid", "v"]
def c__law_table_1 : T → Res (Bool × T) := yesT
def ce__law_table_1 : FP := (callF 3 [] f__law_row (consA [] false (eSlot 0) (consA [] false (eSlot 1) (consA [] false (eSlot 2) nilA))))
def g__law_table : FS := (seqS (retZ [] (biF (consA [] true (compF [] [2] false (rngF range1S (consA [] true (biF (consA [] true (two (eSlot 0) (eLit (.int 0)) idxS) nilA) lenS) nilA)) (nameG [] 2) c__law_table_1 ce__law_table_1) nilA) tupS))
  nxS)
def f__law_table : FV := runF 3 2 [] g__law_table
theorem b__law_table {X : Cx} (m_len : mg "len" = none) (m_range : mg "range" = none) (m_tuple : mg "tuple" = none) (c__law_row : Cal (cd0 P w K mg base) 4 "_law_row" 3 [] f__law_row) (B : Bd X ⟨P, w, K, mg, base, N__law_table, defScope s__law_table, fun _ => true⟩ 4) : XB X [] (defBody s__law_table) g__law_table :=
  (xb_cons (xs_retZ (B.tuple (by kernel_rfl) m_tuple rfl (xa_cons rfl (B.comp [("v", 2)] (by kernel_rfl) (by kernel_rfl) (fun _ => rfl) (B.range1 (by kernel_rfl) m_range rfl (xa_cons rfl (B.len (by kernel_rfl) m_len rfl (xa_cons rfl (xp_idx rfl (B.slot (by kernel_rfl)) xp_int) xa_nil)) xa_nil)) (fun X1 B1 => ⟨(B1.gname (by kernel_rfl)), xts_nil, (B1.call ⟨c__law_row.ex⟩ (by decide) (by kernel_rfl) rfl (xa_cons rfl (B1.slot (by kernel_rfl)) (xa_cons rfl (B1.slot (by kernel_rfl)) (xa_cons rfl (B1.slot (by kernel_rfl)) xa_nil))))⟩)) xa_nil)))
  xb_nil)
theorem sc__law_table : FnScope N__law_table ["dungeon", "laid"] (defScope s__law_table) := ⟨rfl, rfl, rfl, by decide +kernel, rfl, by decide +kernel, by decide +kernel⟩
theorem k__law_table {f : Addr} {fd : FuncData} (m_len : mg "len" = none) (m_range : mg "range" = none) (m_tuple : mg "tuple" = none) (c__law_row : Cal (cd0 P w K mg base) 4 "_law_row" 3 [] f__law_row) (F : FunD K "_law_table" "_law_table" (defArgs s__law_table) (defBody s__law_table) (defScope s__law_table) [] [] f fd) : FnG P w K mg base 5 f fd ["dungeon", "laid"] (spP K 2 [] f__law_table) :=
  fn_ok (l := []) F sc__law_table fun X B => b__law_table m_len m_range m_tuple c__law_row B
theorem cal__law_table {f : Addr} {fd : FuncData} (m_len : mg "len" = none) (m_range : mg "range" = none) (m_tuple : mg "tuple" = none) (c__law_row : Cal (cd0 P w K mg base) 4 "_law_row" 3 [] f__law_row) (F : FunD K "_law_table" "_law_table" (defArgs s__law_table) (defBody s__law_table) (defScope s__law_table) [] [] f fd) (hm : mg "_law_table" = some (.ref f)) : Cal (cd0 P w K mg base) 5 "_law_table" 2 [] f__law_table :=
  ⟨f, fd, ["dungeon", "laid"], k__law_table m_len m_range m_tuple c__law_row F, hm, F.kp, F.bindsN fun _ _ _ _ _ _ us hl => match us, hl with | [_, _], _ => rfl⟩
theorem cq__law_table_1 (dungeon : D) (laid : D) (ds : List D) : compK [] [2] false (nameG [] 2) c__law_table_1 ce__law_table_1 (ds, [some (.fz dungeon), some (.fz laid), none]) = (mapV (vc__law_table_1 dungeon laid) ds).bind fun l => .ok (.val (wl l), [some (.fz dungeon), some (.fz laid), none]) := by
  refine comp_v [some (.fz dungeon), some (.fz laid), none] [some (.fz dungeon), some (.fz laid), none] rfl rfl (fun d => ?_) ds
  · unfold c__law_table_1 ce__law_table_1 vc__law_table_1
    have h_e__law_row := @e__law_row; trivial
theorem e__law_table (dungeon : D) (laid : D) : f__law_table [.fz dungeon, .fz laid] = (v__law_table dungeon laid).bind fun r => .ok (.fz r, []) := by
  unfold f__law_table g__law_table v__law_table
  rw [runF_e _ _ _ _ _ rfl]
  have h_cq__law_table_1 := @cq__law_table_1; have h_e__law_row := @e__law_row; trivial
/-! _law_is_barred -/
abbrev s__law_is_barred : Stmt := top 16
abbrev N__law_is_barred : List Str := ["dungeon", "room"]
def c__law_is_barred_1 : T → Res (Bool × T) := (tru (two (two (eSlot 1) (eLit (.int 1)) idxS) (eLit (.str "bar")) eqS))
def ce__law_is_barred_1 : FP := (eLit (.int 1))
def g__law_is_barred : FS := (seqS (retZ [] (two (compF [] [1] false (itF [] (two (eSlot 0) (eLit (.int 0)) idxS)) (nameG [] 1) c__law_is_barred_1 ce__law_is_barred_1) (lstF nilA) neS))
  nxS)
def f__law_is_barred : FV := runF 2 1 [] g__law_is_barred
theorem b__law_is_barred {X : Cx} (B : Bd X ⟨P, w, K, mg, base, N__law_is_barred, defScope s__law_is_barred, fun _ => true⟩ 0) : XB X [] (defBody s__law_is_barred) g__law_is_barred :=
  (xb_cons (xs_retZ (B.ne (B.comp [("room", 1)] (by kernel_rfl) (by kernel_rfl) (fun _ => rfl) (xi_it (xp_idx rfl (B.slot (by kernel_rfl)) xp_int)) (fun X1 B1 => ⟨(B1.gname (by kernel_rfl)), (xts_one (B1.teq (xp_idx rfl (B1.slot (by kernel_rfl)) xp_int) xp_str)), xp_int⟩)) (xp_lst xa_nil)))
  xb_nil)
theorem sc__law_is_barred : FnScope N__law_is_barred ["dungeon"] (defScope s__law_is_barred) := ⟨rfl, rfl, rfl, by decide +kernel, rfl, by decide +kernel, by decide +kernel⟩
theorem k__law_is_barred {f : Addr} {fd : FuncData} (F : FunD K "_law_is_barred" "_law_is_barred" (defArgs s__law_is_barred) (defBody s__law_is_barred) (defScope s__law_is_barred) [] [] f fd) : FnG P w K mg base 1 f fd ["dungeon"] (spP K 1 [] f__law_is_barred) :=
  fn_ok (l := []) F sc__law_is_barred fun X B => b__law_is_barred B
theorem cal__law_is_barred {f : Addr} {fd : FuncData} (F : FunD K "_law_is_barred" "_law_is_barred" (defArgs s__law_is_barred) (defBody s__law_is_barred) (defScope s__law_is_barred) [] [] f fd) (hm : mg "_law_is_barred" = some (.ref f)) : Cal (cd0 P w K mg base) 1 "_law_is_barred" 1 [] f__law_is_barred :=
  ⟨f, fd, ["dungeon"], k__law_is_barred F, hm, F.kp, F.bindsN fun _ _ _ _ _ _ us hl => match us, hl with | [_], _ => rfl⟩
theorem cq__law_is_barred_1 (dungeon : D) (ds : List D) : compK [] [1] false (nameG [] 1) c__law_is_barred_1 ce__law_is_barred_1 (ds, [some (.fz dungeon), none]) = (mapV (vc__law_is_barred_1) ds).bind fun l => .ok (.val (wl l), [some (.fz dungeon), none]) := by
  refine comp_v [some (.fz dungeon), none] [some (.fz dungeon), none] rfl rfl (fun d => ?_) ds
  · unfold c__law_is_barred_1 ce__law_is_barred_1 vc__law_is_barred_1
    trivial
theorem e__law_is_barred (dungeon : D) : f__law_is_barred [.fz dungeon] = (v__law_is_barred dungeon).bind fun r => .ok (.fz r, []) := by
  unfold f__law_is_barred g__law_is_barred v__law_is_barred
  rw [runF_e _ _ _ _ _ rfl]
  have h_cq__law_is_barred_1 := @cq__law_is_barred_1; trivial
/-! _law_way_has_bar -/
abbrev s__law_way_has_bar : Stmt := top 18
abbrev N__law_way_has_bar : List Str := ["dungeon", "v"]
def gb__law_way_has_bar_1 : FS := (seqS (ifS (two (two (two (two (eSlot 0) (eLit (.int 0)) idxS) (eSlot 1) idxS) (eLit (.int 1)) idxS) (eLit (.str "bar")) eqS) (seqS (wipeS [0, 1] (retZ [] (eLit (.bl true))))
  nxS) nxS)
  (seqS (setS [] 1 false (two (two (two (eSlot 0) (eLit (.int 0)) idxS) (eSlot 1) idxS) (eLit (.int 0)) idxS))
  nxS))
def gt__law_way_has_bar_1 : FP := (boF false (two (eSlot 1) (eLit .non) isnotS) (two (eSlot 1) (eLit (.int 0)) gtS))
def g__law_way_has_bar : FS := (seqS (whlS gt__law_way_has_bar_1 gb__law_way_has_bar_1)
  (seqS (retZ [] (eLit (.bl false)))
  nxS))
def f__law_way_has_bar : FV := runF 2 2 [] g__law_way_has_bar
theorem b__law_way_has_bar {X : Cx} (B : Bd X ⟨P, w, K, mg, base, N__law_way_has_bar, defScope s__law_way_has_bar, fun _ => true⟩ 0) : XB X [] (defBody s__law_way_has_bar) g__law_way_has_bar :=
  (xb_cons (B.while_ (PW.pt (xw_and (B.tisnot (B.slot (by kernel_rfl)) xp_non) (xw_and1 (B.tgt (B.slot (by kernel_rfl)) xp_int)))) (xb_cons (xs_if (B.teq (xp_idx rfl (xp_idx rfl (xp_idx rfl (B.slot (by kernel_rfl)) xp_int) (B.slot (by kernel_rfl))) xp_int) xp_str) (xb_cons (xs_wipe [0, 1] (xs_retZ xp_bl))
  xb_nil) xb_nil)
  (xb_cons (B.set (own := false) (by kernel_rfl) rfl (xp_idx rfl (xp_idx rfl (xp_idx rfl (B.slot (by kernel_rfl)) xp_int) (B.slot (by kernel_rfl))) xp_int))
  xb_nil)))
  (xb_cons (xs_retZ xp_bl)
  xb_nil))
theorem sc__law_way_has_bar : FnScope N__law_way_has_bar ["dungeon", "v"] (defScope s__law_way_has_bar) := ⟨rfl, rfl, rfl, by decide +kernel, rfl, by decide +kernel, by decide +kernel⟩
theorem k__law_way_has_bar {f : Addr} {fd : FuncData} (F : FunD K "_law_way_has_bar" "_law_way_has_bar" (defArgs s__law_way_has_bar) (defBody s__law_way_has_bar) (defScope s__law_way_has_bar) [] [] f fd) : FnG P w K mg base 1 f fd ["dungeon", "v"] (spP K 2 [] f__law_way_has_bar) :=
  fn_ok (l := []) F sc__law_way_has_bar fun X B => b__law_way_has_bar B
theorem cal__law_way_has_bar {f : Addr} {fd : FuncData} (F : FunD K "_law_way_has_bar" "_law_way_has_bar" (defArgs s__law_way_has_bar) (defBody s__law_way_has_bar) (defScope s__law_way_has_bar) [] [] f fd) (hm : mg "_law_way_has_bar" = some (.ref f)) : Cal (cd0 P w K mg base) 1 "_law_way_has_bar" 2 [] f__law_way_has_bar :=
  ⟨f, fd, ["dungeon", "v"], k__law_way_has_bar F, hm, F.kp, F.bindsN fun _ _ _ _ _ _ us hl => match us, hl with | [_, _], _ => rfl⟩
theorem lq__law_way_has_bar_1 (dungeon : D) (v : D) (n : Nat) : whl gt__law_way_has_bar_1 gb__law_way_has_bar_1 n [some (.fz dungeon), some (.fz v)] = (whlVR (vt__law_way_has_bar_1 dungeon) (vb__law_way_has_bar_1 dungeon) n v).bind (onV (fun s => .ok (.nx, [some (.fz dungeon), some (.fz s)])) fun r => .ok (.rt ((fun (r : D) => ((.fz r : OV), ([none, none] : T))) r).1, ((fun (r : D) => ((.fz r : OV), ([none, none] : T))) r).2)) := by
  refine whl_for (t := fun s => [some (.fz dungeon), some (.fz s)]) (u := (fun (r : D) => ((.fz r : OV), ([none, none] : T)))) (fun s => ?_) (fun s => ?_) n v
  · unfold gt__law_way_has_bar_1 vt__law_way_has_bar_1
    trivial
  · unfold gb__law_way_has_bar_1 vb__law_way_has_bar_1
    trivial
theorem e__law_way_has_bar (dungeon : D) (v : D) : f__law_way_has_bar [.fz dungeon, .fz v] = (v__law_way_has_bar dungeon v).bind fun r => .ok (.fz r, []) := by
  unfold f__law_way_has_bar g__law_way_has_bar v__law_way_has_bar
  rw [runF_e _ _ _ _ _ rfl]
  have h_lq__law_way_has_bar_1 := @lq__law_way_has_bar_1; trivial
/-! _law_any_laid -/
abbrev s__law_any_laid : Stmt := top 19
abbrev N__law_any_laid : List Str := ["bag", "dungeon", "rooms", "big", "open_ways", "small", "way", "locks", "turn", "v", "step", "room"]
def c__law_any_laid_1 : T → Res (Bool × T) := (tru (notF (callF 2 [] f__law_way_has_bar (consA [0] false (eSlot 1) (consA [0] false (eSlot 9) nilA)))))
def ce__law_any_laid_1 : FP := (eSlot 9)
def c__law_any_laid_2 : T → Res (Bool × T) := (tru (two (two (eSlot 11) (eLit (.int 1)) idxS) (eLit (.str "lock")) eqS))
def ce__law_any_laid_2 : FP := (eSlot 11)
def gb__law_any_laid_4 : FS := (wipeS [10] (seqS (setS [0] 9 false (iteF (boF false (two (eSlot 9) (eLit (.int 0)) gtS) (two (callF 2 [0] f__law_take (consA [0] true (eSlot 0) (consA [0] false (eLit (.int 2)) nilA))) (eLit (.int 0)) eqS)) (two (two (eSlot 2) (eSlot 9) idxS) (eLit (.int 0)) idxS) (eSlot 9)))
  nxS))
def gb__law_any_laid_3 : FS := (wipeS [9] (seqS (setS [0] 9 false (callF 2 [0] f__law_take (consA [0] true (eSlot 0) (consA [0] false (biF (consA [0] true (eSlot 2) nilA) lenS) nilA))))
  (seqS (forS (wipI [8] (rngF range1S (consA [0] true (eSlot 6) nilA))) (nameG [0] 10)
  gb__law_any_laid_4)
  (seqS (augS (eSlot 5) (eSlot 9) (eLit (.int 1)) (fun i j => i + j))
  nxS))))
def g__law_any_laid : FS := (seqS (parS [0] [2, 3] (consL [0] false (two (eSlot 1) (eLit (.int 0)) idxS) (consL [0] false (eLit .non) nilL)))
  (seqS (ifS (callF 1 [] f__law_is_barred (consA [0] false (eSlot 1) nilA)) (wipeS [1, 4] (seqS (setS [0] 4 false (compF [0] [9] false (rngF range1S (consA [0] true (biF (consA [0] true (eSlot 2) nilA) lenS) nilA)) (nameG [0] 9) c__law_any_laid_1 ce__law_any_laid_1))
  (seqS (setS [0] 3 false (callF 2 [0] f__law_some (consA [0] true (eSlot 0) (consA [0] false (iteF (two (callF 2 [0] f__law_take (consA [0] true (eSlot 0) (consA [0] false (eLit (.int 4)) nilA))) (eLit (.int 0)) gtS) (eSlot 4) (rgLF mkL (biF (consA [0] true (eSlot 2) nilA) lenS))) nilA))))
  nxS))) (wipeS [1] nxS))
  (seqS (parS [0] [5, 6] (consL [0] true (two (lstF (consA [0] false (eLit (.int 0)) nilA)) (biF (consA [0] true (eSlot 2) nilA) lenS) mulS) (consL [0] false (callF 2 [0] f__law_take (consA [0] true (eSlot 0) (consA [0] false (eLit (.int 4)) nilA))) nilL)))
  (seqS (setS [0] 7 false (biF (consA [0] true (compF [0] [11] false (itF [0] (eSlot 2)) (nameG [0] 11) c__law_any_laid_2 ce__law_any_laid_2) nilA) lenS))
  (seqS (forS (wipI [7] (rngF range1S (consA [0] true (callF 2 [0] f__law_some (consA [0] true (eSlot 0) (consA [0] false (lstF (consA [0] false (eSlot 7) (consA [0] false (eSlot 7) (consA [0] false (two (eSlot 7) (eLit (.int 1)) addS) (consA [0] false (biF (consA [0] true (eLit (.int 0)) (consA [0] true (two (eSlot 7) (eLit (.int 1)) subS) nilA)) maxS) (consA [0] false (callF 2 [0] f__law_take (consA [0] true (eSlot 0) (consA [0] false (eLit (.int 4)) nilA))) nilA)))))) nilA))) nilA))) (nameG [0] 8)
  gb__law_any_laid_3)
  (seqS (retZ [0] (tupF (consA [0] false (eSlot 3) (consA [0] false (biF (consA [0] true (eSlot 5) nilA) tupS) nilA))))
  nxS))))))
def f__law_any_laid : FV := runF 12 2 [0] g__law_any_laid
theorem b__law_any_laid {X : Cx} (m_len : mg "len" = none) (m_list : mg "list" = none) (m_max : mg "max" = none) (m_range : mg "range" = none) (m_tuple : mg "tuple" = none) (c__law_is_barred : Cal (cd0 P w K mg base) 1 "_law_is_barred" 1 [] f__law_is_barred) (c__law_way_has_bar : Cal (cd0 P w K mg base) 1 "_law_way_has_bar" 2 [] f__law_way_has_bar) (c__law_take : Cal (cd0 P w K mg base) 1 "_law_take" 2 [0] f__law_take) (c__law_some : Cal (cd0 P w K mg base) 2 "_law_some" 2 [0] f__law_some) (B : Bd X ⟨P, w, K, mg, base, N__law_any_laid, defScope s__law_any_laid, fun _ => true⟩ 2) : XB X [0] (defBody s__law_any_laid) g__law_any_laid :=
  (xb_cons (B.par2 (by kernel_rfl) (by kernel_rfl) (by kernel_rfl) (by kernel_rfl) (by kernel_rfl) (by kernel_rfl) (by kernel_rfl) (by kernel_rfl) (xl_cons rfl (xp_idx rfl (B.slot (by kernel_rfl)) xp_int) (xl_cons rfl xp_non xl_nil)))
  (xb_cons (xs_if (xt_of (B.call ⟨c__law_is_barred.ex⟩ (by decide) (by kernel_rfl) rfl (xa_cons rfl (B.slot (by kernel_rfl)) xa_nil)) (fun _ => rfl)) (xb_wipe [1, 4] (xb_cons (B.setLc (oo := false) [("v", 9)] (by kernel_rfl) (by kernel_rfl) (by kernel_rfl) (by kernel_rfl) (by kernel_rfl) (by kernel_rfl) (by kernel_rfl) (fun _ => rfl) (B.range1 (by kernel_rfl) m_range rfl (xa_cons rfl (B.len (by kernel_rfl) m_len rfl (xa_cons rfl (B.slot (by kernel_rfl)) xa_nil)) xa_nil)) (fun X1 B1 => ⟨(B1.gname (by kernel_rfl)), (xts_one (xt_not (xt_of (B1.call ⟨c__law_way_has_bar.ex⟩ (by decide) (by kernel_rfl) rfl (xa_cons rfl (B1.slot (by kernel_rfl)) (xa_cons rfl (B1.slot (by kernel_rfl)) xa_nil))) (fun _ => rfl)))), (B1.slot (by kernel_rfl))⟩))
  (xb_cons (B.set (own := false) (by kernel_rfl) rfl (B.call ⟨c__law_some.ex⟩ (by decide) (by kernel_rfl) rfl (xa_cons rfl (B.slot (by kernel_rfl)) (xa_cons rfl (xp_ite (B.tgt (B.call ⟨c__law_take.ex⟩ (by decide) (by kernel_rfl) rfl (xa_cons rfl (B.slot (by kernel_rfl)) (xa_cons rfl xp_int xa_nil))) xp_int) (B.slot (by kernel_rfl)) (B.listRg (by kernel_rfl) m_list (by kernel_rfl) m_range rfl (B.len (by kernel_rfl) m_len rfl (xa_cons rfl (B.slot (by kernel_rfl)) xa_nil)))) xa_nil))))
  xb_nil))) (xb_wipe [1] xb_nil))
  (xb_cons (B.par2 (by kernel_rfl) (by kernel_rfl) (by kernel_rfl) (by kernel_rfl) (by kernel_rfl) (by kernel_rfl) (by kernel_rfl) (by kernel_rfl) (xl_cons rfl (xp_bin os_mul (xp_lst (xa_cons rfl xp_int xa_nil)) (B.len (by kernel_rfl) m_len rfl (xa_cons rfl (B.slot (by kernel_rfl)) xa_nil))) (xl_cons rfl (B.call ⟨c__law_take.ex⟩ (by decide) (by kernel_rfl) rfl (xa_cons rfl (B.slot (by kernel_rfl)) (xa_cons rfl xp_int xa_nil))) xl_nil)))
  (xb_cons (B.set (own := false) (by kernel_rfl) rfl (B.len (by kernel_rfl) m_len rfl (xa_cons rfl (B.comp [("room", 11)] (by kernel_rfl) (by kernel_rfl) (fun _ => rfl) (xi_it (B.slot (by kernel_rfl))) (fun X2 B2 => ⟨(B2.gname (by kernel_rfl)), (xts_one (B2.teq (xp_idx rfl (B2.slot (by kernel_rfl)) xp_int) xp_str)), (B2.slot (by kernel_rfl))⟩)) xa_nil)))
  (xb_cons (B.for_ (fun _ => rfl) (xi_wipe [7] (B.range1 (by kernel_rfl) m_range rfl (xa_cons rfl (B.call ⟨c__law_some.ex⟩ (by decide) (by kernel_rfl) rfl (xa_cons rfl (B.slot (by kernel_rfl)) (xa_cons rfl (xp_lst (xa_cons rfl (B.slot (by kernel_rfl)) (xa_cons rfl (B.slot (by kernel_rfl)) (xa_cons rfl (xp_bin os_add (B.slot (by kernel_rfl)) xp_int) (xa_cons rfl (B.max (by kernel_rfl) m_max rfl (xa_cons rfl xp_int (xa_cons rfl (xp_bin os_sub (B.slot (by kernel_rfl)) xp_int) xa_nil))) (xa_cons rfl (B.call ⟨c__law_take.ex⟩ (by decide) (by kernel_rfl) rfl (xa_cons rfl (B.slot (by kernel_rfl)) (xa_cons rfl xp_int xa_nil))) xa_nil)))))) xa_nil))) xa_nil))) (B.gname (by kernel_rfl)) (xb_wipe [9] (xb_cons (B.set (own := false) (by kernel_rfl) rfl (B.call ⟨c__law_take.ex⟩ (by decide) (by kernel_rfl) rfl (xa_cons rfl (B.slot (by kernel_rfl)) (xa_cons rfl (B.len (by kernel_rfl) m_len rfl (xa_cons rfl (B.slot (by kernel_rfl)) xa_nil)) xa_nil))))
  (xb_cons (B.for_ (fun _ => rfl) (xi_wipe [8] (B.range1 (by kernel_rfl) m_range rfl (xa_cons rfl (B.slot (by kernel_rfl)) xa_nil))) (B.gname (by kernel_rfl)) (xb_wipe [10] (xb_cons (B.set (own := false) (by kernel_rfl) rfl (xp_ite (PW.pt (xw_and (B.tgt (B.slot (by kernel_rfl)) xp_int) (xw_and1 (B.teq (B.call ⟨c__law_take.ex⟩ (by decide) (by kernel_rfl) rfl (xa_cons rfl (B.slot (by kernel_rfl)) (xa_cons rfl xp_int xa_nil))) xp_int)))) (xp_idx rfl (xp_idx rfl (B.slot (by kernel_rfl)) (B.slot (by kernel_rfl))) xp_int) (B.slot (by kernel_rfl))))
  xb_nil)))
  (xb_cons (xs_augIx ip_add rfl (B.slot (by kernel_rfl)) (B.slot (by kernel_rfl)) xp_int)
  xb_nil)))))
  (xb_cons (xs_retZ (xp_tup (xa_cons rfl (B.slot (by kernel_rfl)) (xa_cons rfl (B.tuple (by kernel_rfl) m_tuple rfl (xa_cons rfl (B.slot (by kernel_rfl)) xa_nil)) xa_nil))))
  xb_nil))))))
theorem sc__law_any_laid : FnScope N__law_any_laid ["bag", "dungeon"] (defScope s__law_any_laid) := ⟨rfl, rfl, rfl, by decide +kernel, rfl, by decide +kernel, by decide +kernel⟩
theorem k__law_any_laid {f : Addr} {fd : FuncData} (m_len : mg "len" = none) (m_list : mg "list" = none) (m_max : mg "max" = none) (m_range : mg "range" = none) (m_tuple : mg "tuple" = none) (c__law_is_barred : Cal (cd0 P w K mg base) 1 "_law_is_barred" 1 [] f__law_is_barred) (c__law_way_has_bar : Cal (cd0 P w K mg base) 1 "_law_way_has_bar" 2 [] f__law_way_has_bar) (c__law_take : Cal (cd0 P w K mg base) 1 "_law_take" 2 [0] f__law_take) (c__law_some : Cal (cd0 P w K mg base) 2 "_law_some" 2 [0] f__law_some) (F : FunD K "_law_any_laid" "_law_any_laid" (defArgs s__law_any_laid) (defBody s__law_any_laid) (defScope s__law_any_laid) [] [] f fd) : FnG P w K mg base 3 f fd ["bag", "dungeon"] (spP K 2 [0] f__law_any_laid) :=
  fn_ok (l := [0]) F sc__law_any_laid fun X B => b__law_any_laid m_len m_list m_max m_range m_tuple c__law_is_barred c__law_way_has_bar c__law_take c__law_some B
theorem cal__law_any_laid {f : Addr} {fd : FuncData} (m_len : mg "len" = none) (m_list : mg "list" = none) (m_max : mg "max" = none) (m_range : mg "range" = none) (m_tuple : mg "tuple" = none) (c__law_is_barred : Cal (cd0 P w K mg base) 1 "_law_is_barred" 1 [] f__law_is_barred) (c__law_way_has_bar : Cal (cd0 P w K mg base) 1 "_law_way_has_bar" 2 [] f__law_way_has_bar) (c__law_take : Cal (cd0 P w K mg base) 1 "_law_take" 2 [0] f__law_take) (c__law_some : Cal (cd0 P w K mg base) 2 "_law_some" 2 [0] f__law_some) (F : FunD K "_law_any_laid" "_law_any_laid" (defArgs s__law_any_laid) (defBody s__law_any_laid) (defScope s__law_any_laid) [] [] f fd) (hm : mg "_law_any_laid" = some (.ref f)) : Cal (cd0 P w K mg base) 3 "_law_any_laid" 2 [0] f__law_any_laid :=
  ⟨f, fd, ["bag", "dungeon"], k__law_any_laid m_len m_list m_max m_range m_tuple c__law_is_barred c__law_way_has_bar c__law_take c__law_some F, hm, F.kp, F.bindsN fun _ _ _ _ _ _ us hl => match us, hl with | [_, _], _ => rfl⟩
theorem cq__law_any_laid_1 (bag : List D) (dungeon : D) (rooms : D) (big : D) (ds : List D) : compK [0] [9] false (nameG [0] 9) c__law_any_laid_1 ce__law_any_laid_1 (ds, [some (wl bag), some (.fz dungeon), some (.fz rooms), some (.fz big), none, none, none, none, none, none, none, none]) = (mapV (vc__law_any_laid_1 dungeon) ds).bind fun l => .ok (.val (wl l), [some (wl bag), some (.fz dungeon), some (.fz rooms), some (.fz big), none, none, none, none, none, none, none, none]) := by
  refine comp_v [some (wl bag), some (.fz dungeon), some (.fz rooms), some (.fz big), none, none, none, none, none, none, none, none] [some (wl bag), some (.fz dungeon), some (.fz rooms), some (.fz big), none, none, none, none, none, none, none, none] rfl rfl (fun d => ?_) ds
  · unfold c__law_any_laid_1 ce__law_any_laid_1 vc__law_any_laid_1
    have h_e__law_is_barred := @e__law_is_barred; have h_e__law_way_has_bar := @e__law_way_has_bar; have h_e__law_take := @e__law_take; have h_e__law_some := @e__law_some; trivial
theorem cq__law_any_laid_2 (bag : List D) (rooms : D) (big : D) (small : List D) (way : D) (ds : List D) : compK [0] [11] false (nameG [0] 11) c__law_any_laid_2 ce__law_any_laid_2 (ds, [some (wl bag), none, some (.fz rooms), some (.fz big), none, some (wl small), some (.fz way), none, none, none, none, none]) = (mapV (vc__law_any_laid_2) ds).bind fun l => .ok (.val (wl l), [some (wl bag), none, some (.fz rooms), some (.fz big), none, some (wl small), some (.fz way), none, none, none, none, none]) := by
  refine comp_v [some (wl bag), none, some (.fz rooms), some (.fz big), none, some (wl small), some (.fz way), none, none, none, none, none] [some (wl bag), none, some (.fz rooms), some (.fz big), none, some (wl small), some (.fz way), none, none, none, none, none] rfl rfl (fun d => ?_) ds
  · unfold c__law_any_laid_2 ce__law_any_laid_2 vc__law_any_laid_2
    have h_cq__law_any_laid_1 := @cq__law_any_laid_1; have h_e__law_is_barred := @e__law_is_barred; have h_e__law_way_has_bar := @e__law_way_has_bar; have h_e__law_take := @e__law_take; have h_e__law_some := @e__law_some; trivial
theorem lq__law_any_laid_4 (bag : List D) (rooms : D) (big : D) (small : List D) (way : D) (v : D) (ds : List D) : forL (nameG [0] 10) gb__law_any_laid_4 ds [some (wl bag), none, some (.fz rooms), some (.fz big), none, some (wl small), some (.fz way), none, none, some (.fz v), none, none] = (foldV (vb__law_any_laid_4 rooms) ds (bag, v)).bind fun s => .ok (.nx, [some (wl s.1), none, some (.fz rooms), some (.fz big), none, some (wl small), some (.fz way), none, none, some (.fz s.2), none, none]) := by
  refine forL_fold (t := fun s => [some (wl s.1), none, some (.fz rooms), some (.fz big), none, some (wl small), some (.fz way), none, none, some (.fz s.2), none, none])  (fun d s => ?_) ds (bag, v)
  · unfold gb__law_any_laid_4 vb__law_any_laid_4
    have h_cq__law_any_laid_1 := @cq__law_any_laid_1; have h_cq__law_any_laid_2 := @cq__law_any_laid_2; have h_e__law_is_barred := @e__law_is_barred; have h_e__law_way_has_bar := @e__law_way_has_bar; have h_e__law_take := @e__law_take; have h_e__law_some := @e__law_some; trivial
theorem lq__law_any_laid_3 (bag : List D) (rooms : D) (big : D) (small : List D) (way : D) (ds : List D) : forL (nameG [0] 8) gb__law_any_laid_3 ds [some (wl bag), none, some (.fz rooms), some (.fz big), none, some (wl small), some (.fz way), none, none, none, none, none] = (foldV (vb__law_any_laid_3 rooms way) ds (bag, small)).bind fun s => .ok (.nx, [some (wl s.1), none, some (.fz rooms), some (.fz big), none, some (wl s.2), some (.fz way), none, none, none, none, none]) := by
  refine forL_fold (t := fun s => [some (wl s.1), none, some (.fz rooms), some (.fz big), none, some (wl s.2), some (.fz way), none, none, none, none, none])  (fun d s => ?_) ds (bag, small)
  · unfold gb__law_any_laid_3 vb__law_any_laid_3
    have h_cq__law_any_laid_1 := @cq__law_any_laid_1; have h_cq__law_any_laid_2 := @cq__law_any_laid_2; have h_lq__law_any_laid_4 := @lq__law_any_laid_4; have h_e__law_is_barred := @e__law_is_barred; have h_e__law_way_has_bar := @e__law_way_has_bar; have h_e__law_take := @e__law_take; have h_e__law_some := @e__law_some; trivial
theorem e__law_any_laid (bag : List D) (dungeon : D) : f__law_any_laid [wl bag, .fz dungeon] = (v__law_any_laid bag dungeon).bind fun r => .ok (.fz r.1, [wl r.2]) := by
  unfold f__law_any_laid g__law_any_laid v__law_any_laid
  rw [runF_e _ _ _ _ _ rfl]
  have h_cq__law_any_laid_1 := @cq__law_any_laid_1; have h_cq__law_any_laid_2 := @cq__law_any_laid_2; have h_lq__law_any_laid_4 := @lq__law_any_laid_4; have h_lq__law_any_laid_3 := @lq__law_any_laid_3; have h_e__law_is_barred := @e__law_is_barred; have h_e__law_way_has_bar := @e__law_way_has_bar; have h_e__law_take := @e__law_take; have h_e__law_some := @e__law_some; trivial
/-! _law_alike -/
abbrev s__law_alike : Stmt := top 14
abbrev N__law_alike : List Str := ["found", "due"]
def g__law_alike : FS := (seqS (retZ [] (boF false (two (eSlot 0) (eSlot 1) eqS) (two (biF (consA [] true (eSlot 0) nilA) reprS) (biF (consA [] true (eSlot 1) nilA) reprS) eqS)))
  nxS)
def f__law_alike : FV := runF 2 2 [] g__law_alike
theorem b__law_alike {X : Cx} (m_repr : mg "repr" = none) (B : Bd X ⟨P, w, K, mg, base, N__law_alike, defScope s__law_alike, fun _ => true⟩ 0) : XB X [] (defBody s__law_alike) g__law_alike :=
  (xb_cons (xs_retZ (xp_and (B.eq (B.slot (by kernel_rfl)) (B.slot (by kernel_rfl))) (xp_bo1 (B.eq (B.repr (by kernel_rfl) m_repr rfl (xa_cons rfl (B.slot (by kernel_rfl)) xa_nil)) (B.repr (by kernel_rfl) m_repr rfl (xa_cons rfl (B.slot (by kernel_rfl)) xa_nil))))))
  xb_nil)
theorem sc__law_alike : FnScope N__law_alike ["found", "due"] (defScope s__law_alike) := ⟨rfl, rfl, rfl, by decide +kernel, rfl, by decide +kernel, by decide +kernel⟩
theorem k__law_alike {f : Addr} {fd : FuncData} (m_repr : mg "repr" = none) (F : FunD K "_law_alike" "_law_alike" (defArgs s__law_alike) (defBody s__law_alike) (defScope s__law_alike) [] [] f fd) : FnG P w K mg base 1 f fd ["found", "due"] (spP K 2 [] f__law_alike) :=
  fn_ok (l := []) F sc__law_alike fun X B => b__law_alike m_repr B
theorem cal__law_alike {f : Addr} {fd : FuncData} (m_repr : mg "repr" = none) (F : FunD K "_law_alike" "_law_alike" (defArgs s__law_alike) (defBody s__law_alike) (defScope s__law_alike) [] [] f fd) (hm : mg "_law_alike" = some (.ref f)) : Cal (cd0 P w K mg base) 1 "_law_alike" 2 [] f__law_alike :=
  ⟨f, fd, ["found", "due"], k__law_alike m_repr F, hm, F.kp, F.bindsN fun _ _ _ _ _ _ us hl => match us, hl with | [_, _], _ => rfl⟩
theorem e__law_alike (found : D) (due : D) : f__law_alike [.fz found, .fz due] = (v__law_alike found due).bind fun r => .ok (.fz r, []) := by
  unfold f__law_alike g__law_alike v__law_alike
  rw [runF_e _ _ _ _ _ rfl]
  trivial
/-! children_of -/
abbrev s_children_of : Stmt := top 1
abbrev N_children_of : List Str := ["dungeon", "found", "v", "parent", "_way", "_chests", "room"]
def c_children_of_1 : T → Res (Bool × T) := yesT
def ce_children_of_1 : FP := (lstF nilA)
def gb_children_of_2 : FS := (seqS (ifS (two (eSlot 3) (eLit .non) isnotS) (wipeS [2, 3, 4, 5] (seqS (exS (nappF 1 (qSlot 3) (qSlot 2)))
  nxS)) (wipeS [2, 3, 4, 5] nxS))
  nxS)
def g_children_of : FS := (seqS (setS [] 1 true (compF [] [6] true (itF [] (two (eSlot 0) (eLit (.int 0)) idxS)) (nameG [] 6) c_children_of_1 ce_children_of_1))
  (seqS (forS (wipI [0] (rngF (datL (enumL 0)) (consA [] false (two (eSlot 0) (eLit (.int 0)) idxS) nilA))) (tupG 2 (consG (nameG [] 2) (consG (tupG 3 (consG (nameG [] 3) (consG (nameG [] 4) (consG (nameG [] 5) nilG)))) nilG)))
  gb_children_of_2)
  (seqS (retZ [] (eSlot 1))
  nxS)))
def f_children_of : FV := runF 7 1 [] g_children_of
theorem b_children_of {X : Cx} (m_enumerate : mg "enumerate" = none) (B : Bd X ⟨P, w, K, mg, base, N_children_of, defScope s_children_of, fun _ => true⟩ 0) : XB X [] (defBody s_children_of) g_children_of :=
  (xb_cons (B.setLc (oo := true) [("room", 6)] (by kernel_rfl) (by kernel_rfl) (by kernel_rfl) (by kernel_rfl) (by kernel_rfl) (by kernel_rfl) (by kernel_rfl) (fun _ => rfl) (xi_it (xp_idx rfl (B.slot (by kernel_rfl)) xp_int)) (fun X1 B1 => ⟨(B1.gname (by kernel_rfl)), xts_nil, (xp_lst xa_nil)⟩))
  (xb_cons (B.for_ (fun _ => rfl) (xi_wipe [0] (B.enum (by kernel_rfl) m_enumerate rfl (xa_cons rfl (xp_idx rfl (B.slot (by kernel_rfl)) xp_int) xa_nil))) (B.gtup rfl (xgs_cons rfl (B.gname (by kernel_rfl)) (xgs_cons rfl (B.gtup rfl (xgs_cons rfl (B.gname (by kernel_rfl)) (xgs_cons rfl (B.gname (by kernel_rfl)) (xgs_cons rfl (B.gname (by kernel_rfl)) xgs_nil)))) xgs_nil))) (xb_cons (xs_if (B.tisnot (B.slot (by kernel_rfl)) xp_non) (xb_wipe [2, 3, 4, 5] (xb_cons (xs_expr rfl (B.napp (by kernel_rfl) rfl rfl rfl rfl (B.qslot (by kernel_rfl)) (B.qslot (by kernel_rfl))))
  xb_nil)) (xb_wipe [2, 3, 4, 5] xb_nil))
  xb_nil))
  (xb_cons (xs_retZ (B.slot (by kernel_rfl)))
  xb_nil)))
theorem sc_children_of : FnScope N_children_of ["dungeon"] (defScope s_children_of) := ⟨rfl, rfl, rfl, by decide +kernel, rfl, by decide +kernel, by decide +kernel⟩
theorem k_children_of {f : Addr} {fd : FuncData} (m_enumerate : mg "enumerate" = none) (F : FunD K "children_of" "children_of" (defArgs s_children_of) (defBody s_children_of) (defScope s_children_of) [] [] f fd) : FnG P w K mg base 1 f fd ["dungeon"] (spP K 1 [] f_children_of) :=
  fn_ok (l := []) F sc_children_of fun X B => b_children_of m_enumerate B
theorem cal_children_of {f : Addr} {fd : FuncData} (m_enumerate : mg "enumerate" = none) (F : FunD K "children_of" "children_of" (defArgs s_children_of) (defBody s_children_of) (defScope s_children_of) [] [] f fd) (hm : mg "children_of" = some (.ref f)) : Cal (cd0 P w K mg base) 1 "children_of" 1 [] f_children_of :=
  ⟨f, fd, ["dungeon"], k_children_of m_enumerate F, hm, F.kp, F.bindsN fun _ _ _ _ _ _ us hl => match us, hl with | [_], _ => rfl⟩
theorem cq_children_of_1 (dungeon : D) (ds : List D) : compK [] [6] true (nameG [] 6) c_children_of_1 ce_children_of_1 (ds, [some (.fz dungeon), none, none, none, none, none, none]) = (nestV ds).bind fun l => .ok (.val (wll l), [some (.fz dungeon), none, none, none, none, none, none]) := by
  unfold c_children_of_1 ce_children_of_1
  refine comp_nest [some (.fz dungeon), none, none, none, none, none, none] ?_ ?_ (fun d => ?_) ds
  · rfl
  · rfl
  · exact ⟨_, rfl, rfl⟩
theorem lq_children_of_2 (found : List (List D)) (ds : List D) : forL (tupG 2 (consG (nameG [] 2) (consG (tupG 3 (consG (nameG [] 3) (consG (nameG [] 4) (consG (nameG [] 5) nilG)))) nilG))) gb_children_of_2 ds [none, some (wll found), none, none, none, none, none] = (foldV (vb_children_of_2) ds found).bind fun s => .ok (.nx, [none, some (wll s), none, none, none, none, none]) := by
  refine forL_fold (t := fun s => [none, some (wll s), none, none, none, none, none])  (fun d s => ?_) ds found
  · unfold gb_children_of_2 vb_children_of_2
    have h_cq_children_of_1 := @cq_children_of_1; trivial
theorem e_children_of (dungeon : D) : f_children_of [.fz dungeon] = (v_children_of dungeon).bind fun r => .ok (.fz r, []) := by
  unfold f_children_of g_children_of v_children_of
  rw [runF_e _ _ _ _ _ rfl]
  have h_cq_children_of_1 := @cq_children_of_1; have h_lq_children_of_2 := @lq_children_of_2; trivial
/-! way_to -/
abbrev s_way_to : Stmt := top 2
abbrev N_way_to : List Str := ["dungeon", "v", "found"]
def gb_way_to_1 : FS := (seqS (exS (mthF 2 (consA [] false (eSlot 1) nilA) appendM))
  (seqS (setS [] 1 false (two (two (two (eSlot 0) (eLit (.int 0)) idxS) (eSlot 1) idxS) (eLit (.int 0)) idxS))
  nxS))
def gt_way_to_1 : FP := (two (eSlot 1) (eLit .non) isnotS)
def g_way_to : FS := (seqS (setS [] 2 true (lstF nilA))
  (seqS (whlS gt_way_to_1 gb_way_to_1)
  (seqS (retZ [] (biF (consA [] true (biF (consA [] true (eSlot 2) nilA) sortS) nilA) tupS))
  nxS)))
def f_way_to : FV := runF 3 2 [] g_way_to
theorem b_way_to {X : Cx} (m_sorted : mg "sorted" = none) (m_tuple : mg "tuple" = none) (B : Bd X ⟨P, w, K, mg, base, N_way_to, defScope s_way_to, fun _ => true⟩ 0) : XB X [] (defBody s_way_to) g_way_to :=
  (xb_cons (B.set (own := true) (by kernel_rfl) rfl (xp_lst xa_nil))
  (xb_cons (B.while_ (B.tisnot (B.slot (by kernel_rfl)) xp_non) (xb_cons (xs_expr rfl (B.append (by kernel_rfl) rfl rfl rfl rfl (xa_cons rfl (B.slot (by kernel_rfl)) xa_nil)))
  (xb_cons (B.set (own := false) (by kernel_rfl) rfl (xp_idx rfl (xp_idx rfl (xp_idx rfl (B.slot (by kernel_rfl)) xp_int) (B.slot (by kernel_rfl))) xp_int))
  xb_nil)))
  (xb_cons (xs_retZ (B.tuple (by kernel_rfl) m_tuple rfl (xa_cons rfl (B.sorted (by kernel_rfl) m_sorted rfl (xa_cons rfl (B.slot (by kernel_rfl)) xa_nil)) xa_nil)))
  xb_nil)))
theorem sc_way_to : FnScope N_way_to ["dungeon", "v"] (defScope s_way_to) := ⟨rfl, rfl, rfl, by decide +kernel, rfl, by decide +kernel, by decide +kernel⟩
theorem k_way_to {f : Addr} {fd : FuncData} (m_sorted : mg "sorted" = none) (m_tuple : mg "tuple" = none) (F : FunD K "way_to" "way_to" (defArgs s_way_to) (defBody s_way_to) (defScope s_way_to) [] [] f fd) : FnG P w K mg base 1 f fd ["dungeon", "v"] (spP K 2 [] f_way_to) :=
  fn_ok (l := []) F sc_way_to fun X B => b_way_to m_sorted m_tuple B
theorem cal_way_to {f : Addr} {fd : FuncData} (m_sorted : mg "sorted" = none) (m_tuple : mg "tuple" = none) (F : FunD K "way_to" "way_to" (defArgs s_way_to) (defBody s_way_to) (defScope s_way_to) [] [] f fd) (hm : mg "way_to" = some (.ref f)) : Cal (cd0 P w K mg base) 1 "way_to" 2 [] f_way_to :=
  ⟨f, fd, ["dungeon", "v"], k_way_to m_sorted m_tuple F, hm, F.kp, F.bindsN fun _ _ _ _ _ _ us hl => match us, hl with | [_, _], _ => rfl⟩
theorem lq_way_to_1 (dungeon : D) (v : D) (found : List D) (n : Nat) : whl gt_way_to_1 gb_way_to_1 n [some (.fz dungeon), some (.fz v), some (wl found)] = (whlV (vt_way_to_1 dungeon) (vb_way_to_1 dungeon) n (v, found)).bind fun s => .ok (.nx, [some (.fz dungeon), some (.fz s.1), some (wl s.2)]) := by
  refine whl_fold (t := fun s => [some (.fz dungeon), some (.fz s.1), some (wl s.2)])  (fun s => ?_) (fun s => ?_) n (v, found)
  · unfold gt_way_to_1 vt_way_to_1
    trivial
  · unfold gb_way_to_1 vb_way_to_1
    trivial
theorem e_way_to (dungeon : D) (v : D) : f_way_to [.fz dungeon, .fz v] = (v_way_to dungeon v).bind fun r => .ok (.fz r, []) := by
  unfold f_way_to g_way_to v_way_to
  rw [runF_e _ _ _ _ _ rfl]
  have h_lq_way_to_1 := @lq_way_to_1; trivial
/-! added -/
abbrev s_added : Stmt := top 5
abbrev N_added : List Str := ["values"]
def g_added : FS := (seqS (retZ [] (iteF (two (eLit .non) (eSlot 0) (memS false)) (eLit .non) (biF (consA [] true (eSlot 0) nilA) sumS)))
  nxS)
def f_added : FV := runF 1 1 [] g_added
theorem b_added {X : Cx} (m_sum : mg "sum" = none) (B : Bd X ⟨P, w, K, mg, base, N_added, defScope s_added, fun _ => true⟩ 0) : XB X [] (defBody s_added) g_added :=
  (xb_cons (xs_retZ (xp_ite (B.tmem rfl xp_non (B.slot (by kernel_rfl))) xp_non (B.sum (by kernel_rfl) m_sum rfl (xa_cons rfl (B.slot (by kernel_rfl)) xa_nil))))
  xb_nil)
theorem sc_added : FnScope N_added ["values"] (defScope s_added) := ⟨rfl, rfl, rfl, by decide +kernel, rfl, by decide +kernel, by decide +kernel⟩
theorem k_added {f : Addr} {fd : FuncData} (m_sum : mg "sum" = none) (F : FunD K "added" "added" (defArgs s_added) (defBody s_added) (defScope s_added) [] [] f fd) : FnG P w K mg base 1 f fd ["values"] (spP K 1 [] f_added) :=
  fn_ok (l := []) F sc_added fun X B => b_added m_sum B
theorem cal_added {f : Addr} {fd : FuncData} (m_sum : mg "sum" = none) (F : FunD K "added" "added" (defArgs s_added) (defBody s_added) (defScope s_added) [] [] f fd) (hm : mg "added" = some (.ref f)) : Cal (cd0 P w K mg base) 1 "added" 1 [] f_added :=
  ⟨f, fd, ["values"], k_added m_sum F, hm, F.kp, F.bindsN fun _ _ _ _ _ _ us hl => match us, hl with | [_], _ => rfl⟩
theorem e_added (values : D) : f_added [.fz values] = (v_added values).bind fun r => .ok (.fz r, []) := by
  unfold f_added g_added v_added
  rw [runF_e _ _ _ _ _ rfl]
  trivial
/-! least_of -/
abbrev s_least_of : Stmt := top 4
abbrev N_least_of : List Str := ["values", "found", "value"]
def c_least_of_1 : T → Res (Bool × T) := (tru (two (eSlot 2) (eLit .non) isnotS))
def ce_least_of_1 : FP := (eSlot 2)
def g_least_of : FS := (seqS (setS [] 1 false (compF [] [2] false (itF [] (eSlot 0)) (nameG [] 2) c_least_of_1 ce_least_of_1))
  (seqS (retZ [] (iteF (two (eSlot 1) (lstF nilA) neS) (biF (consA [] true (eSlot 1) nilA) minS) (eLit .non)))
  nxS))
def f_least_of : FV := runF 3 1 [] g_least_of
theorem b_least_of {X : Cx} (m_min : mg "min" = none) (B : Bd X ⟨P, w, K, mg, base, N_least_of, defScope s_least_of, fun _ => true⟩ 0) : XB X [] (defBody s_least_of) g_least_of :=
  (xb_cons (B.setLc (oo := false) [("value", 2)] (by kernel_rfl) (by kernel_rfl) (by kernel_rfl) (by kernel_rfl) (by kernel_rfl) (by kernel_rfl) (by kernel_rfl) (fun _ => rfl) (xi_it (B.slot (by kernel_rfl))) (fun X1 B1 => ⟨(B1.gname (by kernel_rfl)), (xts_one (B1.tisnot (B1.slot (by kernel_rfl)) xp_non)), (B1.slot (by kernel_rfl))⟩))
  (xb_cons (xs_retZ (xp_ite (B.tne (B.slot (by kernel_rfl)) (xp_lst xa_nil)) (B.min (by kernel_rfl) m_min rfl (xa_cons rfl (B.slot (by kernel_rfl)) xa_nil)) xp_non))
  xb_nil))
theorem sc_least_of : FnScope N_least_of ["values"] (defScope s_least_of) := ⟨rfl, rfl, rfl, by decide +kernel, rfl, by decide +kernel, by decide +kernel⟩
theorem k_least_of {f : Addr} {fd : FuncData} (m_min : mg "min" = none) (F : FunD K "least_of" "least_of" (defArgs s_least_of) (defBody s_least_of) (defScope s_least_of) [] [] f fd) : FnG P w K mg base 1 f fd ["values"] (spP K 1 [] f_least_of) :=
  fn_ok (l := []) F sc_least_of fun X B => b_least_of m_min B
theorem cal_least_of {f : Addr} {fd : FuncData} (m_min : mg "min" = none) (F : FunD K "least_of" "least_of" (defArgs s_least_of) (defBody s_least_of) (defScope s_least_of) [] [] f fd) (hm : mg "least_of" = some (.ref f)) : Cal (cd0 P w K mg base) 1 "least_of" 1 [] f_least_of :=
  ⟨f, fd, ["values"], k_least_of m_min F, hm, F.kp, F.bindsN fun _ _ _ _ _ _ us hl => match us, hl with | [_], _ => rfl⟩
theorem cq_least_of_1 (values : D) (ds : List D) : compK [] [2] false (nameG [] 2) c_least_of_1 ce_least_of_1 (ds, [some (.fz values), none, none]) = (mapV (vc_least_of_1) ds).bind fun l => .ok (.val (wl l), [some (.fz values), none, none]) := by
  refine comp_v [some (.fz values), none, none] [some (.fz values), none, none] rfl rfl (fun d => ?_) ds
  · unfold c_least_of_1 ce_least_of_1 vc_least_of_1
    trivial
theorem e_least_of (values : D) : f_least_of [.fz values] = (v_least_of values).bind fun r => .ok (.fz r, []) := by
  unfold f_least_of g_least_of v_least_of
  rw [runF_e _ _ _ _ _ rfl]
  have h_cq_least_of_1 := @cq_least_of_1; trivial
/-! joined_rows -/
abbrev s_joined_rows : Stmt := top 6
abbrev N_joined_rows : List Str := ["own", "choices", "alls", "found", "at", "_least", "lacking", "least"]
def c_joined_rows_1 : T → Res (Bool × T) := yesT
def ce_joined_rows_1 : FP := (eSlot 7)
def gb_joined_rows_2 : FS := (wipeS [4, 5, 6] (seqS (exS (mthF 3 (consA [] false (callF 1 [] f_added (consA [] false (two (two (lstF (consA [] false (eSlot 0) (consA [] false (eSlot 6) nilA))) (sliF (eSlot 2) noneO (someO (eSlot 4))) addS) (sliF (eSlot 2) (someO (two (eSlot 4) (eLit (.int 1)) addS)) noneO) addS) nilA)) nilA) appendM))
  nxS))
def g_joined_rows : FS := (seqS (setS [] 2 false (compF [] [7, 6] false (itF [] (eSlot 1)) (tupG 2 (consG (nameG [] 7) (consG (nameG [] 6) nilG))) c_joined_rows_1 ce_joined_rows_1))
  (seqS (setS [] 3 true (lstF nilA))
  (seqS (forS (wipI [1] (rngF (datL (enumL 0)) (consA [] false (eSlot 1) nilA))) (tupG 2 (consG (nameG [] 4) (consG (tupG 2 (consG (nameG [] 5) (consG (nameG [] 6) nilG))) nilG)))
  gb_joined_rows_2)
  (seqS (retZ [] (tupF (consA [] false (callF 1 [] f_added (consA [] false (lstF (consA [] false (eSlot 0) (starA [] (eSlot 2) nilA))) nilA)) (consA [] false (callF 1 [] f_least_of (consA [] false (eSlot 3) nilA)) nilA))))
  nxS))))
def f_joined_rows : FV := runF 8 2 [] g_joined_rows
theorem b_joined_rows {X : Cx} (m_enumerate : mg "enumerate" = none) (c_added : Cal (cd0 P w K mg base) 1 "added" 1 [] f_added) (c_least_of : Cal (cd0 P w K mg base) 1 "least_of" 1 [] f_least_of) (B : Bd X ⟨P, w, K, mg, base, N_joined_rows, defScope s_joined_rows, fun _ => true⟩ 1) : XB X [] (defBody s_joined_rows) g_joined_rows :=
  (xb_cons (B.setLc (oo := false) [("least", 7), ("lacking", 6)] (by kernel_rfl) (by kernel_rfl) (by kernel_rfl) (by kernel_rfl) (by kernel_rfl) (by kernel_rfl) (by kernel_rfl) (fun _ => rfl) (xi_it (B.slot (by kernel_rfl))) (fun X1 B1 => ⟨(B1.gtup rfl (xgs_cons rfl (B1.gname (by kernel_rfl)) (xgs_cons rfl (B1.gname (by kernel_rfl)) xgs_nil))), xts_nil, (B1.slot (by kernel_rfl))⟩))
  (xb_cons (B.set (own := true) (by kernel_rfl) rfl (xp_lst xa_nil))
  (xb_cons (B.for_ (fun _ => rfl) (xi_wipe [1] (B.enum (by kernel_rfl) m_enumerate rfl (xa_cons rfl (B.slot (by kernel_rfl)) xa_nil))) (B.gtup rfl (xgs_cons rfl (B.gname (by kernel_rfl)) (xgs_cons rfl (B.gtup rfl (xgs_cons rfl (B.gname (by kernel_rfl)) (xgs_cons rfl (B.gname (by kernel_rfl)) xgs_nil))) xgs_nil))) (xb_wipe [4, 5, 6] (xb_cons (xs_expr rfl (B.append (by kernel_rfl) rfl rfl rfl rfl (xa_cons rfl (B.call ⟨c_added.ex⟩ (by decide) (by kernel_rfl) rfl (xa_cons rfl (xp_bin os_add (xp_bin os_add (xp_lst (xa_cons rfl (B.slot (by kernel_rfl)) (xa_cons rfl (B.slot (by kernel_rfl)) xa_nil))) (xp_slice (B.slot (by kernel_rfl)) xo_none (xo_some (B.slot (by kernel_rfl))))) (xp_slice (B.slot (by kernel_rfl)) (xo_some (xp_bin os_add (B.slot (by kernel_rfl)) xp_int)) xo_none)) xa_nil)) xa_nil)))
  xb_nil)))
  (xb_cons (xs_retZ (xp_tup (xa_cons rfl (B.call ⟨c_added.ex⟩ (by decide) (by kernel_rfl) rfl (xa_cons rfl (xp_lst (xa_cons rfl (B.slot (by kernel_rfl)) (xa_star (B.slot (by kernel_rfl)) xa_nil))) xa_nil)) (xa_cons rfl (B.call ⟨c_least_of.ex⟩ (by decide) (by kernel_rfl) rfl (xa_cons rfl (B.slot (by kernel_rfl)) xa_nil)) xa_nil))))
  xb_nil))))
theorem sc_joined_rows : FnScope N_joined_rows ["own", "choices"] (defScope s_joined_rows) := ⟨rfl, rfl, rfl, by decide +kernel, rfl, by decide +kernel, by decide +kernel⟩
theorem k_joined_rows {f : Addr} {fd : FuncData} (m_enumerate : mg "enumerate" = none) (c_added : Cal (cd0 P w K mg base) 1 "added" 1 [] f_added) (c_least_of : Cal (cd0 P w K mg base) 1 "least_of" 1 [] f_least_of) (F : FunD K "joined_rows" "joined_rows" (defArgs s_joined_rows) (defBody s_joined_rows) (defScope s_joined_rows) [] [] f fd) : FnG P w K mg base 2 f fd ["own", "choices"] (spP K 2 [] f_joined_rows) :=
  fn_ok (l := []) F sc_joined_rows fun X B => b_joined_rows m_enumerate c_added c_least_of B
theorem cal_joined_rows {f : Addr} {fd : FuncData} (m_enumerate : mg "enumerate" = none) (c_added : Cal (cd0 P w K mg base) 1 "added" 1 [] f_added) (c_least_of : Cal (cd0 P w K mg base) 1 "least_of" 1 [] f_least_of) (F : FunD K "joined_rows" "joined_rows" (defArgs s_joined_rows) (defBody s_joined_rows) (defScope s_joined_rows) [] [] f fd) (hm : mg "joined_rows" = some (.ref f)) : Cal (cd0 P w K mg base) 2 "joined_rows" 2 [] f_joined_rows :=
  ⟨f, fd, ["own", "choices"], k_joined_rows m_enumerate c_added c_least_of F, hm, F.kp, F.bindsN fun _ _ _ _ _ _ us hl => match us, hl with | [_, _], _ => rfl⟩
theorem cq_joined_rows_1 (own : D) (choices : D) (ds : List D) : compK [] [7, 6] false (tupG 2 (consG (nameG [] 7) (consG (nameG [] 6) nilG))) c_joined_rows_1 ce_joined_rows_1 (ds, [some (.fz own), some (.fz choices), none, none, none, none, none, none]) = (mapV (vc_joined_rows_1) ds).bind fun l => .ok (.val (wl l), [some (.fz own), some (.fz choices), none, none, none, none, none, none]) := by
  refine comp_v [some (.fz own), some (.fz choices), none, none, none, none, none, none] [some (.fz own), some (.fz choices), none, none, none, none, none, none] rfl rfl (fun d => ?_) ds
  · unfold c_joined_rows_1 ce_joined_rows_1 vc_joined_rows_1
    have h_e_added := @e_added; have h_e_least_of := @e_least_of; trivial
theorem lq_joined_rows_2 (own : D) (alls : D) (found : List D) (ds : List D) : forL (tupG 2 (consG (nameG [] 4) (consG (tupG 2 (consG (nameG [] 5) (consG (nameG [] 6) nilG))) nilG))) gb_joined_rows_2 ds [some (.fz own), none, some (.fz alls), some (wl found), none, none, none, none] = (foldV (vb_joined_rows_2 own alls) ds found).bind fun s => .ok (.nx, [some (.fz own), none, some (.fz alls), some (wl s), none, none, none, none]) := by
  refine forL_fold (t := fun s => [some (.fz own), none, some (.fz alls), some (wl s), none, none, none, none])  (fun d s => ?_) ds found
  · unfold gb_joined_rows_2 vb_joined_rows_2
    have h_cq_joined_rows_1 := @cq_joined_rows_1; have h_e_added := @e_added; have h_e_least_of := @e_least_of; trivial
theorem e_joined_rows (own : D) (choices : D) : f_joined_rows [.fz own, .fz choices] = (v_joined_rows own choices).bind fun r => .ok (.fz r, []) := by
  unfold f_joined_rows g_joined_rows v_joined_rows
  rw [runF_e _ _ _ _ _ rfl]
  have h_cq_joined_rows_1 := @cq_joined_rows_1; have h_lq_joined_rows_2 := @lq_joined_rows_2; have h_e_added := @e_added; have h_e_least_of := @e_least_of; trivial
/-! choice_plain -/
abbrev s_choice_plain : Stmt := top 7
abbrev N_choice_plain : List Str := ["way", "row"]
def g_choice_plain : FS := (seqS (ifS (two (eSlot 0) (eLit (.str "open")) eqS) (seqS (retZ [] (tupF (consA [] false (two (eSlot 1) (eLit (.int 0)) idxS) (consA [] false (two (eSlot 1) (eLit (.int 1)) idxS) nilA))))
  nxS) nxS)
  (seqS (ifS (two (eSlot 0) (eLit (.str "bar")) eqS) (seqS (retZ [] (tupF (consA [] false (eLit (.int 0)) (consA [] false (eLit (.int 0)) nilA))))
  nxS) (wipeS [0] nxS))
  (seqS (retZ [] (tupF (consA [] false (callF 1 [] f_least_of (consA [] false (lstF (consA [] false (eLit (.int 0)) (consA [] false (two (eSlot 1) (eLit (.int 0)) idxS) nilA))) nilA)) (consA [] false (callF 1 [] f_least_of (consA [] false (lstF (consA [] false (eLit (.int 0)) (consA [] false (two (eSlot 1) (eLit (.int 1)) idxS) nilA))) nilA)) nilA))))
  nxS)))
def f_choice_plain : FV := runF 2 2 [] g_choice_plain
theorem b_choice_plain {X : Cx} (c_least_of : Cal (cd0 P w K mg base) 1 "least_of" 1 [] f_least_of) (B : Bd X ⟨P, w, K, mg, base, N_choice_plain, defScope s_choice_plain, fun _ => true⟩ 1) : XB X [] (defBody s_choice_plain) g_choice_plain :=
  (xb_cons (xs_if (B.teq (B.slot (by kernel_rfl)) xp_str) (xb_cons (xs_retZ (xp_tup (xa_cons rfl (xp_idx rfl (B.slot (by kernel_rfl)) xp_int) (xa_cons rfl (xp_idx rfl (B.slot (by kernel_rfl)) xp_int) xa_nil))))
  xb_nil) xb_nil)
  (xb_cons (xs_if (B.teq (B.slot (by kernel_rfl)) xp_str) (xb_cons (xs_retZ (xp_tup (xa_cons rfl xp_int (xa_cons rfl xp_int xa_nil))))
  xb_nil) (xb_wipe [0] xb_nil))
  (xb_cons (xs_retZ (xp_tup (xa_cons rfl (B.call ⟨c_least_of.ex⟩ (by decide) (by kernel_rfl) rfl (xa_cons rfl (xp_lst (xa_cons rfl xp_int (xa_cons rfl (xp_idx rfl (B.slot (by kernel_rfl)) xp_int) xa_nil))) xa_nil)) (xa_cons rfl (B.call ⟨c_least_of.ex⟩ (by decide) (by kernel_rfl) rfl (xa_cons rfl (xp_lst (xa_cons rfl xp_int (xa_cons rfl (xp_idx rfl (B.slot (by kernel_rfl)) xp_int) xa_nil))) xa_nil)) xa_nil))))
  xb_nil)))
theorem sc_choice_plain : FnScope N_choice_plain ["way", "row"] (defScope s_choice_plain) := ⟨rfl, rfl, rfl, by decide +kernel, rfl, by decide +kernel, by decide +kernel⟩
theorem k_choice_plain {f : Addr} {fd : FuncData} (c_least_of : Cal (cd0 P w K mg base) 1 "least_of" 1 [] f_least_of) (F : FunD K "choice_plain" "choice_plain" (defArgs s_choice_plain) (defBody s_choice_plain) (defScope s_choice_plain) [] [] f fd) : FnG P w K mg base 2 f fd ["way", "row"] (spP K 2 [] f_choice_plain) :=
  fn_ok (l := []) F sc_choice_plain fun X B => b_choice_plain c_least_of B
theorem cal_choice_plain {f : Addr} {fd : FuncData} (c_least_of : Cal (cd0 P w K mg base) 1 "least_of" 1 [] f_least_of) (F : FunD K "choice_plain" "choice_plain" (defArgs s_choice_plain) (defBody s_choice_plain) (defScope s_choice_plain) [] [] f fd) (hm : mg "choice_plain" = some (.ref f)) : Cal (cd0 P w K mg base) 2 "choice_plain" 2 [] f_choice_plain :=
  ⟨f, fd, ["way", "row"], k_choice_plain c_least_of F, hm, F.kp, F.bindsN fun _ _ _ _ _ _ us hl => match us, hl with | [_, _], _ => rfl⟩
theorem e_choice_plain (way : D) (row : D) : f_choice_plain [.fz way, .fz row] = (v_choice_plain way row).bind fun r => .ok (.fz r, []) := by
  unfold f_choice_plain g_choice_plain v_choice_plain
  rw [runF_e _ _ _ _ _ rfl]
  have h_e_least_of := @e_least_of; trivial
/-! choice_opened -/
abbrev s_choice_opened : Stmt := top 8
abbrev N_choice_opened : List Str := ["way", "row", "is_due"]
def g_choice_opened : FS := (seqS (ifS (boF true (two (eSlot 0) (eLit (.str "lock")) neS) (eSlot 2)) (seqS (retZ [] (tupF (consA [] false (two (eSlot 1) (eLit (.int 2)) idxS) (consA [] false (two (eSlot 1) (eLit (.int 3)) idxS) nilA))))
  nxS) (wipeS [0, 2] nxS))
  (seqS (retZ [] (tupF (consA [] false (callF 1 [] f_least_of (consA [] false (lstF (consA [] false (eLit (.int 0)) (consA [] false (two (eSlot 1) (eLit (.int 2)) idxS) nilA))) nilA)) (consA [] false (callF 1 [] f_least_of (consA [] false (lstF (consA [] false (eLit (.int 0)) (consA [] false (two (eSlot 1) (eLit (.int 3)) idxS) nilA))) nilA)) nilA))))
  nxS))
def f_choice_opened : FV := runF 3 3 [] g_choice_opened
theorem b_choice_opened {X : Cx} (c_least_of : Cal (cd0 P w K mg base) 1 "least_of" 1 [] f_least_of) (B : Bd X ⟨P, w, K, mg, base, N_choice_opened, defScope s_choice_opened, fun _ => true⟩ 1) : XB X [] (defBody s_choice_opened) g_choice_opened :=
  (xb_cons (xs_if (PW.pt (xw_or (B.tne (B.slot (by kernel_rfl)) xp_str) (xw_or1 (xt_of (B.slot (by kernel_rfl)) (fun _ => rfl))))) (xb_cons (xs_retZ (xp_tup (xa_cons rfl (xp_idx rfl (B.slot (by kernel_rfl)) xp_int) (xa_cons rfl (xp_idx rfl (B.slot (by kernel_rfl)) xp_int) xa_nil))))
  xb_nil) (xb_wipe [0, 2] xb_nil))
  (xb_cons (xs_retZ (xp_tup (xa_cons rfl (B.call ⟨c_least_of.ex⟩ (by decide) (by kernel_rfl) rfl (xa_cons rfl (xp_lst (xa_cons rfl xp_int (xa_cons rfl (xp_idx rfl (B.slot (by kernel_rfl)) xp_int) xa_nil))) xa_nil)) (xa_cons rfl (B.call ⟨c_least_of.ex⟩ (by decide) (by kernel_rfl) rfl (xa_cons rfl (xp_lst (xa_cons rfl xp_int (xa_cons rfl (xp_idx rfl (B.slot (by kernel_rfl)) xp_int) xa_nil))) xa_nil)) xa_nil))))
  xb_nil))
theorem sc_choice_opened : FnScope N_choice_opened ["way", "row", "is_due"] (defScope s_choice_opened) := ⟨rfl, rfl, rfl, by decide +kernel, rfl, by decide +kernel, by decide +kernel⟩
theorem k_choice_opened {f : Addr} {fd : FuncData} (c_least_of : Cal (cd0 P w K mg base) 1 "least_of" 1 [] f_least_of) (F : FunD K "choice_opened" "choice_opened" (defArgs s_choice_opened) (defBody s_choice_opened) (defScope s_choice_opened) [] [] f fd) : FnG P w K mg base 2 f fd ["way", "row", "is_due"] (spP K 3 [] f_choice_opened) :=
  fn_ok (l := []) F sc_choice_opened fun X B => b_choice_opened c_least_of B
theorem cal_choice_opened {f : Addr} {fd : FuncData} (c_least_of : Cal (cd0 P w K mg base) 1 "least_of" 1 [] f_least_of) (F : FunD K "choice_opened" "choice_opened" (defArgs s_choice_opened) (defBody s_choice_opened) (defScope s_choice_opened) [] [] f fd) (hm : mg "choice_opened" = some (.ref f)) : Cal (cd0 P w K mg base) 2 "choice_opened" 3 [] f_choice_opened :=
  ⟨f, fd, ["way", "row", "is_due"], k_choice_opened c_least_of F, hm, F.kp, F.bindsN fun _ _ _ _ _ _ us hl => match us, hl with | [_, _, _], _ => rfl⟩
theorem e_choice_opened (way : D) (row : D) (is_due : D) : f_choice_opened [.fz way, .fz row, .fz is_due] = (v_choice_opened way row is_due).bind fun r => .ok (.fz r, []) := by
  unfold f_choice_opened g_choice_opened v_choice_opened
  rw [runF_e _ _ _ _ _ rfl]
  have h_e_least_of := @e_least_of; trivial
/-! net_table -/
abbrev s_net_table : Stmt := top 9
abbrev N_net_table : List Str := ["dungeon", "laid", "rooms", "big", "small", "children", "due", "rows", "v", "own", "plain", "opened", "u"]
def c_net_table_2 : T → Res (Bool × T) := yesT
def ce_net_table_2 : FP := (callF 2 [] f_choice_plain (consA [] false (two (two (eSlot 2) (eSlot 12) idxS) (eLit (.int 1)) idxS) (consA [] false (two (eSlot 7) (eSlot 12) idxS) nilA)))
def c_net_table_3 : T → Res (Bool × T) := yesT
def ce_net_table_3 : FP := (callF 3 [] f_choice_opened (consA [] false (two (two (eSlot 2) (eSlot 12) idxS) (eLit (.int 1)) idxS) (consA [] false (two (eSlot 7) (eSlot 12) idxS) (consA [] false (two (eSlot 12) (eSlot 6) (memS false)) nilA))))
def gb_net_table_1 : FS := (wipeS [8, 9, 10, 11] (seqS (setS [] 9 false (two (two (eSlot 4) (eSlot 8) idxS) (biF (consA [] true (two (two (two (eSlot 2) (eSlot 8) idxS) (eLit (.int 1)) idxS) (eLit (.str "lock")) eqS) nilA) intS) subS))
  (seqS (setS [] 10 false (callF 2 [] f_joined_rows (consA [] false (eSlot 9) (consA [] false (compF [] [12] false (itF [] (two (eSlot 5) (eSlot 8) idxS)) (nameG [] 12) c_net_table_2 ce_net_table_2) nilA))))
  (seqS (setS [] 11 false (callF 2 [] f_joined_rows (consA [] false (eSlot 9) (consA [] false (compF [] [12] false (itF [] (two (eSlot 5) (eSlot 8) idxS)) (nameG [] 12) c_net_table_3 ce_net_table_3) nilA))))
  (seqS (stS [] (two (iteF (two (eSlot 8) (eSlot 3) eqS) (tupF (consA [] false (eLit .non) (consA [] false (eLit .non) nilA))) (eSlot 10)) (iteF (two (eSlot 3) (eLit .non) isS) (tupF (consA [] false (eLit .non) (consA [] false (eLit .non) nilA))) (eSlot 11)) addS) (eSlot 7) (eSlot 8))
  nxS)))))
def g_net_table : FS := (seqS (asgS [] (tupG 2 (consG (nameG [] 2) (consG (tupG 2 (consG (nameG [] 3) (consG (nameG [] 4) nilG))) nilG))) (tupF (consA [] false (two (eSlot 0) (eLit (.int 0)) idxS) (consA [] false (eSlot 1) nilA))))
  (seqS (parS [] [5, 6] (consL [] false (callF 1 [] f_children_of (consA [] false (eSlot 0) nilA)) (consL [] false (callF 2 [] f_way_to (consA [] false (eSlot 0) (consA [] false (eSlot 3) nilA))) nilL)))
  (seqS (setS [] 7 true (two (lstF (consA [] false (tupF (consA [] false (eLit .non) (consA [] false (eLit .non) (consA [] false (eLit .non) (consA [] false (eLit .non) nilA))))) nilA)) (biF (consA [] true (eSlot 2) nilA) lenS) mulS))
  (seqS (forS (wipI [0, 1] (rngF range3S (consA [] true (two (biF (consA [] true (eSlot 2) nilA) lenS) (eLit (.int 1)) subS) (consA [] true (negF (eLit (.int 1))) (consA [] true (negF (eLit (.int 1))) nilA))))) (nameG [] 8)
  gb_net_table_1)
  (seqS (retZ [] (biF (consA [] true (eSlot 7) nilA) tupS))
  nxS)))))
def f_net_table : FV := runF 13 2 [] g_net_table
theorem b_net_table {X : Cx} (m_int : mg "int" = none) (m_len : mg "len" = none) (m_range : mg "range" = none) (m_tuple : mg "tuple" = none) (c_children_of : Cal (cd0 P w K mg base) 1 "children_of" 1 [] f_children_of) (c_way_to : Cal (cd0 P w K mg base) 1 "way_to" 2 [] f_way_to) (c_choice_plain : Cal (cd0 P w K mg base) 2 "choice_plain" 2 [] f_choice_plain) (c_joined_rows : Cal (cd0 P w K mg base) 2 "joined_rows" 2 [] f_joined_rows) (c_choice_opened : Cal (cd0 P w K mg base) 2 "choice_opened" 3 [] f_choice_opened) (B : Bd X ⟨P, w, K, mg, base, N_net_table, defScope s_net_table, fun _ => true⟩ 2) : XB X [] (defBody s_net_table) g_net_table :=
  (xb_cons (B.asgT (by kernel_rfl) (by kernel_rfl) (by kernel_rfl) (B.gtup rfl (xgs_cons rfl (B.gname (by kernel_rfl)) (xgs_cons rfl (B.gtup rfl (xgs_cons rfl (B.gname (by kernel_rfl)) (xgs_cons rfl (B.gname (by kernel_rfl)) xgs_nil))) xgs_nil))) (xp_tup (xa_cons rfl (xp_idx rfl (B.slot (by kernel_rfl)) xp_int) (xa_cons rfl (B.slot (by kernel_rfl)) xa_nil))))
  (xb_cons (B.parT (by kernel_rfl) (by kernel_rfl) (by kernel_rfl) rfl (by decide) (B.xn (by kernel_rfl) (B.xn (by kernel_rfl) xn_nil)) (xl_cons rfl (B.call ⟨c_children_of.ex⟩ (by decide) (by kernel_rfl) rfl (xa_cons rfl (B.slot (by kernel_rfl)) xa_nil)) (xl_cons rfl (B.call ⟨c_way_to.ex⟩ (by decide) (by kernel_rfl) rfl (xa_cons rfl (B.slot (by kernel_rfl)) (xa_cons rfl (B.slot (by kernel_rfl)) xa_nil))) xl_nil)))
  (xb_cons (B.set (own := true) (by kernel_rfl) rfl (xp_bin os_mul (xp_lst (xa_cons rfl (xp_tup (xa_cons rfl xp_non (xa_cons rfl xp_non (xa_cons rfl xp_non (xa_cons rfl xp_non xa_nil))))) xa_nil)) (B.len (by kernel_rfl) m_len rfl (xa_cons rfl (B.slot (by kernel_rfl)) xa_nil))))
  (xb_cons (B.for_ (fun _ => rfl) (xi_wipe [0, 1] (B.range3 (by kernel_rfl) m_range rfl (xa_cons rfl (xp_bin os_sub (B.len (by kernel_rfl) m_len rfl (xa_cons rfl (B.slot (by kernel_rfl)) xa_nil)) xp_int) (xa_cons rfl (xp_neg xp_int) (xa_cons rfl (xp_neg xp_int) xa_nil))))) (B.gname (by kernel_rfl)) (xb_wipe [8, 9, 10, 11] (xb_cons (B.set (own := false) (by kernel_rfl) rfl (xp_bin os_sub (xp_idx rfl (B.slot (by kernel_rfl)) (B.slot (by kernel_rfl))) (B.int (by kernel_rfl) m_int rfl (xa_cons rfl (B.eq (xp_idx rfl (xp_idx rfl (B.slot (by kernel_rfl)) (B.slot (by kernel_rfl))) xp_int) xp_str) xa_nil))))
  (xb_cons (B.set (own := false) (by kernel_rfl) rfl (B.call ⟨c_joined_rows.ex⟩ (by decide) (by kernel_rfl) rfl (xa_cons rfl (B.slot (by kernel_rfl)) (xa_cons rfl (B.comp [("u", 12)] (by kernel_rfl) (by kernel_rfl) (fun _ => rfl) (xi_it (xp_idx rfl (B.slot (by kernel_rfl)) (B.slot (by kernel_rfl)))) (fun X1 B1 => ⟨(B1.gname (by kernel_rfl)), xts_nil, (B1.call ⟨c_choice_plain.ex⟩ (by decide) (by kernel_rfl) rfl (xa_cons rfl (xp_idx rfl (xp_idx rfl (B1.slot (by kernel_rfl)) (B1.slot (by kernel_rfl))) xp_int) (xa_cons rfl (xp_idx rfl (B1.slot (by kernel_rfl)) (B1.slot (by kernel_rfl))) xa_nil)))⟩)) xa_nil))))
  (xb_cons (B.set (own := false) (by kernel_rfl) rfl (B.call ⟨c_joined_rows.ex⟩ (by decide) (by kernel_rfl) rfl (xa_cons rfl (B.slot (by kernel_rfl)) (xa_cons rfl (B.comp [("u", 12)] (by kernel_rfl) (by kernel_rfl) (fun _ => rfl) (xi_it (xp_idx rfl (B.slot (by kernel_rfl)) (B.slot (by kernel_rfl)))) (fun X2 B2 => ⟨(B2.gname (by kernel_rfl)), xts_nil, (B2.call ⟨c_choice_opened.ex⟩ (by decide) (by kernel_rfl) rfl (xa_cons rfl (xp_idx rfl (xp_idx rfl (B2.slot (by kernel_rfl)) (B2.slot (by kernel_rfl))) xp_int) (xa_cons rfl (xp_idx rfl (B2.slot (by kernel_rfl)) (B2.slot (by kernel_rfl))) (xa_cons rfl (B2.mem rfl (B2.slot (by kernel_rfl)) (B2.slot (by kernel_rfl))) xa_nil))))⟩)) xa_nil))))
  (xb_cons (B.st rfl rfl rfl (xp_bin os_add (xp_ite (B.teq (B.slot (by kernel_rfl)) (B.slot (by kernel_rfl))) (xp_tup (xa_cons rfl xp_non (xa_cons rfl xp_non xa_nil))) (B.slot (by kernel_rfl))) (xp_ite (B.tis (B.slot (by kernel_rfl)) xp_non) (xp_tup (xa_cons rfl xp_non (xa_cons rfl xp_non xa_nil))) (B.slot (by kernel_rfl)))) (B.slot (by kernel_rfl)) (B.slot (by kernel_rfl)))
  xb_nil))))))
  (xb_cons (xs_retZ (B.tuple (by kernel_rfl) m_tuple rfl (xa_cons rfl (B.slot (by kernel_rfl)) xa_nil)))
  xb_nil)))))
theorem sc_net_table : FnScope N_net_table ["dungeon", "laid"] (defScope s_net_table) := ⟨rfl, rfl, rfl, by decide +kernel, rfl, by decide +kernel, by decide +kernel⟩
theorem k_net_table {f : Addr} {fd : FuncData} (m_int : mg "int" = none) (m_len : mg "len" = none) (m_range : mg "range" = none) (m_tuple : mg "tuple" = none) (c_children_of : Cal (cd0 P w K mg base) 1 "children_of" 1 [] f_children_of) (c_way_to : Cal (cd0 P w K mg base) 1 "way_to" 2 [] f_way_to) (c_choice_plain : Cal (cd0 P w K mg base) 2 "choice_plain" 2 [] f_choice_plain) (c_joined_rows : Cal (cd0 P w K mg base) 2 "joined_rows" 2 [] f_joined_rows) (c_choice_opened : Cal (cd0 P w K mg base) 2 "choice_opened" 3 [] f_choice_opened) (F : FunD K "net_table" "net_table" (defArgs s_net_table) (defBody s_net_table) (defScope s_net_table) [] [] f fd) : FnG P w K mg base 3 f fd ["dungeon", "laid"] (spP K 2 [] f_net_table) :=
  fn_ok (l := []) F sc_net_table fun X B => b_net_table m_int m_len m_range m_tuple c_children_of c_way_to c_choice_plain c_joined_rows c_choice_opened B
theorem cal_net_table {f : Addr} {fd : FuncData} (m_int : mg "int" = none) (m_len : mg "len" = none) (m_range : mg "range" = none) (m_tuple : mg "tuple" = none) (c_children_of : Cal (cd0 P w K mg base) 1 "children_of" 1 [] f_children_of) (c_way_to : Cal (cd0 P w K mg base) 1 "way_to" 2 [] f_way_to) (c_choice_plain : Cal (cd0 P w K mg base) 2 "choice_plain" 2 [] f_choice_plain) (c_joined_rows : Cal (cd0 P w K mg base) 2 "joined_rows" 2 [] f_joined_rows) (c_choice_opened : Cal (cd0 P w K mg base) 2 "choice_opened" 3 [] f_choice_opened) (F : FunD K "net_table" "net_table" (defArgs s_net_table) (defBody s_net_table) (defScope s_net_table) [] [] f fd) (hm : mg "net_table" = some (.ref f)) : Cal (cd0 P w K mg base) 3 "net_table" 2 [] f_net_table :=
  ⟨f, fd, ["dungeon", "laid"], k_net_table m_int m_len m_range m_tuple c_children_of c_way_to c_choice_plain c_joined_rows c_choice_opened F, hm, F.kp, F.bindsN fun _ _ _ _ _ _ us hl => match us, hl with | [_, _], _ => rfl⟩
theorem cq_net_table_2 (rooms : D) (big : D) (small : D) (children : D) (due : D) (rows : List D) (v : D) (own : D) (ds : List D) : compK [] [12] false (nameG [] 12) c_net_table_2 ce_net_table_2 (ds, [none, none, some (.fz rooms), some (.fz big), some (.fz small), some (.fz children), some (.fz due), some (wl rows), some (.fz v), some (.fz own), none, none, none]) = (mapV (vc_net_table_2 rooms rows) ds).bind fun l => .ok (.val (wl l), [none, none, some (.fz rooms), some (.fz big), some (.fz small), some (.fz children), some (.fz due), some (wl rows), some (.fz v), some (.fz own), none, none, none]) := by
  refine comp_v [none, none, some (.fz rooms), some (.fz big), some (.fz small), some (.fz children), some (.fz due), some (wl rows), some (.fz v), some (.fz own), none, none, none] [none, none, some (.fz rooms), some (.fz big), some (.fz small), some (.fz children), some (.fz due), some (wl rows), some (.fz v), some (.fz own), none, none, none] rfl rfl (fun d => ?_) ds
  · unfold c_net_table_2 ce_net_table_2 vc_net_table_2
    have h_e_children_of := @e_children_of; have h_e_way_to := @e_way_to; have h_e_choice_plain := @e_choice_plain; have h_e_joined_rows := @e_joined_rows; have h_e_choice_opened := @e_choice_opened; trivial
theorem cq_net_table_3 (rooms : D) (big : D) (small : D) (children : D) (due : D) (rows : List D) (v : D) (own : D) (plain : D) (ds : List D) : compK [] [12] false (nameG [] 12) c_net_table_3 ce_net_table_3 (ds, [none, none, some (.fz rooms), some (.fz big), some (.fz small), some (.fz children), some (.fz due), some (wl rows), some (.fz v), some (.fz own), some (.fz plain), none, none]) = (mapV (vc_net_table_3 rooms due rows) ds).bind fun l => .ok (.val (wl l), [none, none, some (.fz rooms), some (.fz big), some (.fz small), some (.fz children), some (.fz due), some (wl rows), some (.fz v), some (.fz own), some (.fz plain), none, none]) := by
  refine comp_v [none, none, some (.fz rooms), some (.fz big), some (.fz small), some (.fz children), some (.fz due), some (wl rows), some (.fz v), some (.fz own), some (.fz plain), none, none] [none, none, some (.fz rooms), some (.fz big), some (.fz small), some (.fz children), some (.fz due), some (wl rows), some (.fz v), some (.fz own), some (.fz plain), none, none] rfl rfl (fun d => ?_) ds
  · unfold c_net_table_3 ce_net_table_3 vc_net_table_3
    have h_cq_net_table_2 := @cq_net_table_2; have h_e_children_of := @e_children_of; have h_e_way_to := @e_way_to; have h_e_choice_plain := @e_choice_plain; have h_e_joined_rows := @e_joined_rows; have h_e_choice_opened := @e_choice_opened; trivial
theorem lq_net_table_1 (rooms : D) (big : D) (small : D) (children : D) (due : D) (rows : List D) (ds : List D) : forL (nameG [] 8) gb_net_table_1 ds [none, none, some (.fz rooms), some (.fz big), some (.fz small), some (.fz children), some (.fz due), some (wl rows), none, none, none, none, none] = (foldV (vb_net_table_1 rooms big small children due) ds rows).bind fun s => .ok (.nx, [none, none, some (.fz rooms), some (.fz big), some (.fz small), some (.fz children), some (.fz due), some (wl s), none, none, none, none, none]) := by
  refine forL_fold (t := fun s => [none, none, some (.fz rooms), some (.fz big), some (.fz small), some (.fz children), some (.fz due), some (wl s), none, none, none, none, none])  (fun d s => ?_) ds rows
  · unfold gb_net_table_1 vb_net_table_1
    have h_cq_net_table_2 := @cq_net_table_2; have h_cq_net_table_3 := @cq_net_table_3; have h_e_children_of := @e_children_of; have h_e_way_to := @e_way_to; have h_e_choice_plain := @e_choice_plain; have h_e_joined_rows := @e_joined_rows; have h_e_choice_opened := @e_choice_opened; trivial
theorem e_net_table (dungeon : D) (laid : D) : f_net_table [.fz dungeon, .fz laid] = (v_net_table dungeon laid).bind fun r => .ok (.fz r, []) := by
  unfold f_net_table g_net_table v_net_table
  rw [runF_e _ _ _ _ _ rfl]
  have h_cq_net_table_2 := @cq_net_table_2; have h_cq_net_table_3 := @cq_net_table_3; have h_lq_net_table_1 := @lq_net_table_1; have h_e_children_of := @e_children_of; have h_e_way_to := @e_way_to; have h_e_choice_plain := @e_choice_plain; have h_e_joined_rows := @e_joined_rows; have h_e_choice_opened := @e_choice_opened; trivial
/-! law -/
abbrev s_law : Stmt := top 26
abbrev N_law : List Str := ["script", "bag", "turn", "dungeon", "laid", "other", "table"]
def gb_law_1 : FS := (seqS (setS [] 3 false (callF 2 [0] f__law_dungeon (consA [] true (eSlot 1) (consA [] false (callF 2 [0] f__law_some (consA [] true (eSlot 1) (consA [] false (lstF (consA [] false (eLit (.int 4)) (consA [] false (eLit (.int 9)) (consA [] false (eLit (.int 6)) nilA)))) nilA))) nilA))))
  (seqS (parS [] [4, 5] (consL [] false (callF 2 [0] f__law_any_laid (consA [] true (eSlot 1) (consA [] false (eSlot 3) nilA))) (consL [] false (callF 2 [0] f__law_any_laid (consA [] true (eSlot 1) (consA [] false (eSlot 3) nilA))) nilL)))
  (seqS (setS [] 6 false (callF 2 [] f__law_table (consA [] false (eSlot 3) (consA [] false (eSlot 4) nilA))))
  (seqS (ifS (notF (callF 2 [] f__law_alike (consA [] false (callF 2 [] f_net_table (consA [] false (eSlot 3) (consA [] false (eSlot 4) nilA))) (consA [] false (eSlot 6) nilA)))) (seqS (wipeS [1, 2, 3, 4, 5, 6] (retZ [] (eLit (.bl false))))
  nxS) (wipeS [2] nxS))
  (seqS (ifS (notF (callF 2 [] f__law_alike (consA [] false (callF 2 [] f_net_table (consA [] false (eSlot 3) (consA [] false (eSlot 5) nilA))) (consA [] false (callF 2 [] f__law_table (consA [] false (eSlot 3) (consA [] false (eSlot 5) nilA))) nilA)))) (seqS (wipeS [1, 3, 4, 5, 6] (retZ [] (eLit (.bl false))))
  nxS) (wipeS [5] nxS))
  (seqS (ifS (notF (callF 2 [] f__law_alike (consA [] false (callF 2 [] f_net_table (consA [] false (eSlot 3) (consA [] false (eSlot 4) nilA))) (consA [] false (eSlot 6) nilA)))) (seqS (wipeS [1, 3, 4, 6] (retZ [] (eLit (.bl false))))
  nxS) (wipeS [3, 4, 6] nxS))
  nxS))))))
def g_law : FS := (seqS (setS [] 1 true (callF 1 [] f__law_bag (consA [] false (eSlot 0) nilA)))
  (seqS (forS (wipI [0] (rngF range1S (consA [] true (eLit (.int 2)) nilA))) (nameG [] 2)
  gb_law_1)
  (seqS (retZ [] (eLit (.bl true)))
  nxS)))
def f_law : FV := runF 7 1 [] g_law
theorem b_law {X : Cx} (m_range : mg "range" = none) (c__law_bag : Cal (cd0 P w K mg base) 1 "_law_bag" 1 [] f__law_bag) (c__law_some : Cal (cd0 P w K mg base) 2 "_law_some" 2 [0] f__law_some) (c__law_dungeon : Cal (cd0 P w K mg base) 3 "_law_dungeon" 2 [0] f__law_dungeon) (c__law_any_laid : Cal (cd0 P w K mg base) 3 "_law_any_laid" 2 [0] f__law_any_laid) (c__law_table : Cal (cd0 P w K mg base) 5 "_law_table" 2 [] f__law_table) (c_net_table : Cal (cd0 P w K mg base) 3 "net_table" 2 [] f_net_table) (c__law_alike : Cal (cd0 P w K mg base) 1 "_law_alike" 2 [] f__law_alike) (B : Bd X ⟨P, w, K, mg, base, N_law, defScope s_law, fun _ => true⟩ 5) : XB X [] (defBody s_law) g_law :=
  (xb_cons (B.set (own := true) (by kernel_rfl) rfl (B.call ⟨c__law_bag.ex⟩ (by decide) (by kernel_rfl) rfl (xa_cons rfl (B.slot (by kernel_rfl)) xa_nil)))
  (xb_cons (B.for_ (fun _ => rfl) (xi_wipe [0] (B.range1 (by kernel_rfl) m_range rfl (xa_cons rfl xp_int xa_nil))) (B.gname (by kernel_rfl)) (xb_cons (B.set (own := false) (by kernel_rfl) rfl (B.call ⟨c__law_dungeon.ex⟩ (by decide) (by kernel_rfl) rfl (xa_cons rfl (B.slot (by kernel_rfl)) (xa_cons rfl (B.call ⟨c__law_some.ex⟩ (by decide) (by kernel_rfl) rfl (xa_cons rfl (B.slot (by kernel_rfl)) (xa_cons rfl (xp_lst (xa_cons rfl xp_int (xa_cons rfl xp_int (xa_cons rfl xp_int xa_nil)))) xa_nil))) xa_nil))))
  (xb_cons (B.par2 (by kernel_rfl) (by kernel_rfl) (by kernel_rfl) (by kernel_rfl) (by kernel_rfl) (by kernel_rfl) (by kernel_rfl) (by kernel_rfl) (xl_cons rfl (B.call ⟨c__law_any_laid.ex⟩ (by decide) (by kernel_rfl) rfl (xa_cons rfl (B.slot (by kernel_rfl)) (xa_cons rfl (B.slot (by kernel_rfl)) xa_nil))) (xl_cons rfl (B.call ⟨c__law_any_laid.ex⟩ (by decide) (by kernel_rfl) rfl (xa_cons rfl (B.slot (by kernel_rfl)) (xa_cons rfl (B.slot (by kernel_rfl)) xa_nil))) xl_nil)))
  (xb_cons (B.set (own := false) (by kernel_rfl) rfl (B.call ⟨c__law_table.ex⟩ (by decide) (by kernel_rfl) rfl (xa_cons rfl (B.slot (by kernel_rfl)) (xa_cons rfl (B.slot (by kernel_rfl)) xa_nil))))
  (xb_cons (xs_if (xt_not (xt_of (B.call ⟨c__law_alike.ex⟩ (by decide) (by kernel_rfl) rfl (xa_cons rfl (B.call ⟨c_net_table.ex⟩ (by decide) (by kernel_rfl) rfl (xa_cons rfl (B.slot (by kernel_rfl)) (xa_cons rfl (B.slot (by kernel_rfl)) xa_nil))) (xa_cons rfl (B.slot (by kernel_rfl)) xa_nil))) (fun _ => rfl))) (xb_cons (xs_wipe [1, 2, 3, 4, 5, 6] (xs_retZ xp_bl))
  xb_nil) (xb_wipe [2] xb_nil))
  (xb_cons (xs_if (xt_not (xt_of (B.call ⟨c__law_alike.ex⟩ (by decide) (by kernel_rfl) rfl (xa_cons rfl (B.call ⟨c_net_table.ex⟩ (by decide) (by kernel_rfl) rfl (xa_cons rfl (B.slot (by kernel_rfl)) (xa_cons rfl (B.slot (by kernel_rfl)) xa_nil))) (xa_cons rfl (B.call ⟨c__law_table.ex⟩ (by decide) (by kernel_rfl) rfl (xa_cons rfl (B.slot (by kernel_rfl)) (xa_cons rfl (B.slot (by kernel_rfl)) xa_nil))) xa_nil))) (fun _ => rfl))) (xb_cons (xs_wipe [1, 3, 4, 5, 6] (xs_retZ xp_bl))
  xb_nil) (xb_wipe [5] xb_nil))
  (xb_cons (xs_if (xt_not (xt_of (B.call ⟨c__law_alike.ex⟩ (by decide) (by kernel_rfl) rfl (xa_cons rfl (B.call ⟨c_net_table.ex⟩ (by decide) (by kernel_rfl) rfl (xa_cons rfl (B.slot (by kernel_rfl)) (xa_cons rfl (B.slot (by kernel_rfl)) xa_nil))) (xa_cons rfl (B.slot (by kernel_rfl)) xa_nil))) (fun _ => rfl))) (xb_cons (xs_wipe [1, 3, 4, 6] (xs_retZ xp_bl))
  xb_nil) (xb_wipe [3, 4, 6] xb_nil))
  xb_nil)))))))
  (xb_cons (xs_retZ xp_bl)
  xb_nil)))
theorem sc_law : FnScope N_law ["script"] (defScope s_law) := ⟨rfl, rfl, rfl, by decide +kernel, rfl, by decide +kernel, by decide +kernel⟩
theorem k_law {f : Addr} {fd : FuncData} (m_range : mg "range" = none) (c__law_bag : Cal (cd0 P w K mg base) 1 "_law_bag" 1 [] f__law_bag) (c__law_some : Cal (cd0 P w K mg base) 2 "_law_some" 2 [0] f__law_some) (c__law_dungeon : Cal (cd0 P w K mg base) 3 "_law_dungeon" 2 [0] f__law_dungeon) (c__law_any_laid : Cal (cd0 P w K mg base) 3 "_law_any_laid" 2 [0] f__law_any_laid) (c__law_table : Cal (cd0 P w K mg base) 5 "_law_table" 2 [] f__law_table) (c_net_table : Cal (cd0 P w K mg base) 3 "net_table" 2 [] f_net_table) (c__law_alike : Cal (cd0 P w K mg base) 1 "_law_alike" 2 [] f__law_alike) (F : FunD K "law" "law" (defArgs s_law) (defBody s_law) (defScope s_law) [] [] f fd) : FnG P w K mg base 6 f fd ["script"] (spP K 1 [] f_law) :=
  fn_ok (l := []) F sc_law fun X B => b_law m_range c__law_bag c__law_some c__law_dungeon c__law_any_laid c__law_table c_net_table c__law_alike B
theorem cal_law {f : Addr} {fd : FuncData} (m_range : mg "range" = none) (c__law_bag : Cal (cd0 P w K mg base) 1 "_law_bag" 1 [] f__law_bag) (c__law_some : Cal (cd0 P w K mg base) 2 "_law_some" 2 [0] f__law_some) (c__law_dungeon : Cal (cd0 P w K mg base) 3 "_law_dungeon" 2 [0] f__law_dungeon) (c__law_any_laid : Cal (cd0 P w K mg base) 3 "_law_any_laid" 2 [0] f__law_any_laid) (c__law_table : Cal (cd0 P w K mg base) 5 "_law_table" 2 [] f__law_table) (c_net_table : Cal (cd0 P w K mg base) 3 "net_table" 2 [] f_net_table) (c__law_alike : Cal (cd0 P w K mg base) 1 "_law_alike" 2 [] f__law_alike) (F : FunD K "law" "law" (defArgs s_law) (defBody s_law) (defScope s_law) [] [] f fd) (hm : mg "law" = some (.ref f)) : Cal (cd0 P w K mg base) 6 "law" 1 [] f_law :=
  ⟨f, fd, ["script"], k_law m_range c__law_bag c__law_some c__law_dungeon c__law_any_laid c__law_table c_net_table c__law_alike F, hm, F.kp, F.bindsN fun _ _ _ _ _ _ us hl => match us, hl with | [_], _ => rfl⟩
def vb_law_1 (d : D) (s : List D) : Res (FlV (List D) (D)) :=
  (v__law_some s (D.lst [(D.int 4), (D.int 9), (D.int 6)])).bind fun x_4 => (v__law_dungeon x_4.2 x_4.1).bind fun x_5 => 
  (v__law_any_laid x_5.2 x_5.1).bind fun x_6 => (v__law_any_laid x_6.2 x_5.1).bind fun x_7 => 
  (v__law_table x_5.1 x_6.1).bind fun x_8 => 
  (v_net_table x_5.1 x_6.1).bind fun x_9 => (v__law_alike x_9 x_8).bind fun x_10 => (truV x_10).bind fun b_11 => if (!b_11) = true then Res.ok (.rt (D.bl false))
  else (v_net_table x_5.1 x_7.1).bind fun x_12 => (v__law_table x_5.1 x_7.1).bind fun x_13 => (v__law_alike x_12 x_13).bind fun x_14 => (truV x_14).bind fun b_15 => if (!b_15) = true then Res.ok (.rt (D.bl false))
  else (v_net_table x_5.1 x_6.1).bind fun x_16 => (v__law_alike x_16 x_8).bind fun x_17 => (truV x_17).bind fun b_18 => if (!b_18) = true then Res.ok (.rt (D.bl false))
  else Res.ok (.nx x_7.2)
def v_law (script : D) : Res (D) :=
  (v__law_bag script).bind fun x_1 => (Res.ok x_1).bind fun bag_2 => 
  (rng1V (D.int 2)).bind fun l_3 => (forV (vb_law_1) l_3 bag_2).bind (onV (fun bag_19 => 
  Res.ok (D.bl true)) (fun r_20 => Res.ok r_20))
theorem lq_law_1 (bag : List D) (ds : List D) : forL (nameG [] 2) gb_law_1 ds [none, some (wl bag), none, none, none, none, none] = (forV (vb_law_1) ds bag).bind (onV (fun s => .ok (.nx, [none, some (wl s), none, none, none, none, none])) fun r => .ok (.rt ((fun (r : D) => ((.fz r : OV), ([none, none, none, none, none, none, none] : T))) r).1, ((fun (r : D) => ((.fz r : OV), ([none, none, none, none, none, none, none] : T))) r).2)) := by
  refine forL_for (t := fun s => [none, some (wl s), none, none, none, none, none]) (u := (fun (r : D) => ((.fz r : OV), ([none, none, none, none, none, none, none] : T)))) (fun d s => ?_) ds bag
  · unfold gb_law_1 vb_law_1
    have h_e__law_bag := @e__law_bag; have h_e__law_some := @e__law_some; have h_e__law_dungeon := @e__law_dungeon; have h_e__law_any_laid := @e__law_any_laid; have h_e__law_table := @e__law_table; have h_e_net_table := @e_net_table; have h_e__law_alike := @e__law_alike; trivial
theorem e_law (script : D) : f_law [.fz script] = (v_law script).bind fun r => .ok (.fz r, []) := by
  unfold f_law g_law v_law
  rw [runF_e _ _ _ _ _ rfl]
  have h_lq_law_1 := @lq_law_1; have h_e__law_bag := @e__law_bag; have h_e__law_some := @e__law_some; have h_e__law_dungeon := @e__law_dungeon; have h_e__law_any_laid := @e__law_any_laid; have h_e__law_table := @e__law_table; have h_e_net_table := @e_net_table; have h_e__law_alike := @e__law_alike; trivial
end
/-! the head -/
def d__law_bag : He.DefD := ⟨("_law_bag", none), "_law_bag", "_law_bag", defArgs s__law_bag, defBody s__law_bag, defScope s__law_bag, [], []⟩
def d__law_take : He.DefD := ⟨("_law_take", none), "_law_take", "_law_take", defArgs s__law_take, defBody s__law_take, defScope s__law_take, [], []⟩
def d__law_some : He.DefD := ⟨("_law_some", none), "_law_some", "_law_some", defArgs s__law_some, defBody s__law_some, defScope s__law_some, [], []⟩
def d__law_dungeon : He.DefD := ⟨("_law_dungeon", none), "_law_dungeon", "_law_dungeon", defArgs s__law_dungeon, defBody s__law_dungeon, defScope s__law_dungeon, [], []⟩
def d__law_up : He.DefD := ⟨("_law_up", none), "_law_up", "_law_up", defArgs s__law_up, defBody s__law_up, defScope s__law_up, [], []⟩
def d__law_branch : He.DefD := ⟨("_law_branch", none), "_law_branch", "_law_branch", defArgs s__law_branch, defBody s__law_branch, defScope s__law_branch, [], []⟩
def d__law_stumps : He.DefD := ⟨("_law_stumps", none), "_law_stumps", "_law_stumps", defArgs s__law_stumps, defBody s__law_stumps, defScope s__law_stumps, [], []⟩
def d__law_net : He.DefD := ⟨("_law_net", none), "_law_net", "_law_net", defArgs s__law_net, defBody s__law_net, defScope s__law_net, [], []⟩
def d__law_least : He.DefD := ⟨("_law_least", none), "_law_least", "_law_least", defArgs s__law_least, defBody s__law_least, defScope s__law_least, [], []⟩
def d__law_row : He.DefD := ⟨("_law_row", none), "_law_row", "_law_row", defArgs s__law_row, defBody s__law_row, defScope s__law_row, [], []⟩
def d__law_table : He.DefD := ⟨("_law_table", none), "_law_table", "_law_table", defArgs s__law_table, defBody s__law_table, defScope s__law_table, [], []⟩
def d__law_is_barred : He.DefD := ⟨("_law_is_barred", none), "_law_is_barred", "_law_is_barred", defArgs s__law_is_barred, defBody s__law_is_barred, defScope s__law_is_barred, [], []⟩
def d__law_way_has_bar : He.DefD := ⟨("_law_way_has_bar", none), "_law_way_has_bar", "_law_way_has_bar", defArgs s__law_way_has_bar, defBody s__law_way_has_bar, defScope s__law_way_has_bar, [], []⟩
def d__law_any_laid : He.DefD := ⟨("_law_any_laid", none), "_law_any_laid", "_law_any_laid", defArgs s__law_any_laid, defBody s__law_any_laid, defScope s__law_any_laid, [], []⟩
def d__law_alike : He.DefD := ⟨("_law_alike", none), "_law_alike", "_law_alike", defArgs s__law_alike, defBody s__law_alike, defScope s__law_alike, [], []⟩
def d_children_of : He.DefD := ⟨("children_of", none), "children_of", "children_of", defArgs s_children_of, defBody s_children_of, defScope s_children_of, [], []⟩
def d_way_to : He.DefD := ⟨("way_to", none), "way_to", "way_to", defArgs s_way_to, defBody s_way_to, defScope s_way_to, [], []⟩
def d_added : He.DefD := ⟨("added", none), "added", "added", defArgs s_added, defBody s_added, defScope s_added, [], []⟩
def d_least_of : He.DefD := ⟨("least_of", none), "least_of", "least_of", defArgs s_least_of, defBody s_least_of, defScope s_least_of, [], []⟩
def d_joined_rows : He.DefD := ⟨("joined_rows", none), "joined_rows", "joined_rows", defArgs s_joined_rows, defBody s_joined_rows, defScope s_joined_rows, [], []⟩
def d_choice_plain : He.DefD := ⟨("choice_plain", none), "choice_plain", "choice_plain", defArgs s_choice_plain, defBody s_choice_plain, defScope s_choice_plain, [], []⟩
def d_choice_opened : He.DefD := ⟨("choice_opened", none), "choice_opened", "choice_opened", defArgs s_choice_opened, defBody s_choice_opened, defScope s_choice_opened, [], []⟩
def d_net_table : He.DefD := ⟨("net_table", none), "net_table", "net_table", defArgs s_net_table, defBody s_net_table, defScope s_net_table, [], []⟩
def d_law : He.DefD := ⟨("law", none), "law", "law", defArgs s_law, defBody s_law, defScope s_law, [], []⟩
def dfs : List He.DefD := [d__law_bag, d__law_take, d__law_some, d__law_dungeon, d__law_up, d__law_branch, d__law_stumps, d__law_net, d__law_least, d__law_row, d__law_table, d__law_is_barred, d__law_way_has_bar, d__law_any_laid, d__law_alike, d_children_of, d_way_to, d_added, d_least_of, d_joined_rows, d_choice_plain, d_choice_opened, d_net_table, d_law]
def fas : List He.Fa := [.glo "_law_bag", .glo "_law_take", .glo "_law_some", .glo "_law_dungeon", .glo "_law_up", .glo "_law_branch", .glo "_law_stumps", .glo "_law_net", .glo "_law_least", .glo "_law_row", .glo "_law_table", .glo "_law_is_barred", .glo "_law_way_has_bar", .glo "_law_any_laid", .glo "_law_alike", .glo "children_of", .glo "way_to", .glo "added", .glo "least_of", .glo "joined_rows", .glo "choice_plain", .glo "choice_opened", .glo "net_table", .glo "law", .free "abs", .free "enumerate", .free "int", .free "len", .free "list", .free "max", .free "min", .free "range", .free "repr", .free "sorted", .free "sum", .free "tuple"]
abbrev R : PySem.W.OpenRow := PySem.W.OpenLaw.row PySem.Challenge.rw_wellstrewn_k18_net_tables_by_all_stumps
abbrev hk : PySem.W.Hook := He.hookD 4 fas dfs
def ob (s : PySem.W.SharedT) : He.AlD := He.obsDG 4 fas dfs (HandSHeadRun.getT s)
theorem ob_eq (s : PySem.W.SharedT) : ob s = hk.obs s.abs := He.obsDG_eq (HandSHeadRun.getT_eq s)
theorem run (w : World) : HandSHeadRun.RunEq R (PySem.W.view R.prog [26]) hk ob 4000 ["children_of", "way_to", "least_of", "added", "joined_rows", "choice_plain", "choice_opened", "net_table", "_law_bag", "_law_take", "_law_some", "_law_alike", "_law_dungeon", "_law_is_barred", "_law_net", "_law_way_has_bar", "_law_any_laid", "_law_up", "_law_branch", "_law_stumps", "_law_least", "_law_row", "_law_table"] w := by
  intro os
  kernel_rfl
theorem facts {P : Program} {w : World} {K : PySem.W.Frag} {h : Heap} {mg : Str → Option Value} {f : Addr} (X : K.In h) (G : h.Ns mainGlobals mg) (hfa : mg ("law" : Str) = some (.ref f)) (c : He.SaysD fas dfs K) :
    ∃ fd : FuncData, (∀ (s : Shared) (v : Value), BindsTo s fd ⟨[v], []⟩ [("script", v)]) ∧ ∀ base : Heap, K.In base → base.Ns mainGlobals mg → FnG P w K mg base 6 f fd ["script"] (spP K 1 [] f_law) := by
  obtain ⟨fd0, F0⟩ := c.def_ 0 (d := d__law_bag) rfl
  obtain ⟨fd1, F1⟩ := c.def_ 1 (d := d__law_take) rfl
  obtain ⟨fd2, F2⟩ := c.def_ 2 (d := d__law_some) rfl
  obtain ⟨fd3, F3⟩ := c.def_ 3 (d := d__law_dungeon) rfl
  obtain ⟨fd4, F4⟩ := c.def_ 4 (d := d__law_up) rfl
  obtain ⟨fd5, F5⟩ := c.def_ 5 (d := d__law_branch) rfl
  obtain ⟨fd6, F6⟩ := c.def_ 6 (d := d__law_stumps) rfl
  obtain ⟨fd7, F7⟩ := c.def_ 7 (d := d__law_net) rfl
  obtain ⟨fd8, F8⟩ := c.def_ 8 (d := d__law_least) rfl
  obtain ⟨fd9, F9⟩ := c.def_ 9 (d := d__law_row) rfl
  obtain ⟨fd10, F10⟩ := c.def_ 10 (d := d__law_table) rfl
  obtain ⟨fd11, F11⟩ := c.def_ 11 (d := d__law_is_barred) rfl
  obtain ⟨fd12, F12⟩ := c.def_ 12 (d := d__law_way_has_bar) rfl
  obtain ⟨fd13, F13⟩ := c.def_ 13 (d := d__law_any_laid) rfl
  obtain ⟨fd14, F14⟩ := c.def_ 14 (d := d__law_alike) rfl
  obtain ⟨fd15, F15⟩ := c.def_ 15 (d := d_children_of) rfl
  obtain ⟨fd16, F16⟩ := c.def_ 16 (d := d_way_to) rfl
  obtain ⟨fd17, F17⟩ := c.def_ 17 (d := d_added) rfl
  obtain ⟨fd18, F18⟩ := c.def_ 18 (d := d_least_of) rfl
  obtain ⟨fd19, F19⟩ := c.def_ 19 (d := d_joined_rows) rfl
  obtain ⟨fd20, F20⟩ := c.def_ 20 (d := d_choice_plain) rfl
  obtain ⟨fd21, F21⟩ := c.def_ 21 (d := d_choice_opened) rfl
  obtain ⟨fd22, F22⟩ := c.def_ 22 (d := d_net_table) rfl
  obtain ⟨fd23, F23⟩ := c.def_ 23 (d := d_law) rfl
  have m_abs : mg "abs" = none := He.free_ok X G (c.fact 24 (f := .free "abs") rfl)
  have m_enumerate : mg "enumerate" = none := He.free_ok X G (c.fact 25 (f := .free "enumerate") rfl)
  have m_int : mg "int" = none := He.free_ok X G (c.fact 26 (f := .free "int") rfl)
  have m_len : mg "len" = none := He.free_ok X G (c.fact 27 (f := .free "len") rfl)
  have m_list : mg "list" = none := He.free_ok X G (c.fact 28 (f := .free "list") rfl)
  have m_max : mg "max" = none := He.free_ok X G (c.fact 29 (f := .free "max") rfl)
  have m_min : mg "min" = none := He.free_ok X G (c.fact 30 (f := .free "min") rfl)
  have m_range : mg "range" = none := He.free_ok X G (c.fact 31 (f := .free "range") rfl)
  have m_repr : mg "repr" = none := He.free_ok X G (c.fact 32 (f := .free "repr") rfl)
  have m_sorted : mg "sorted" = none := He.free_ok X G (c.fact 33 (f := .free "sorted") rfl)
  have m_sum : mg "sum" = none := He.free_ok X G (c.fact 34 (f := .free "sum") rfl)
  have m_tuple : mg "tuple" = none := He.free_ok X G (c.fact 35 (f := .free "tuple") rfl)
  have e := hfa.symm.trans (He.glo_ok X G (c.fact 23 (f := .glo "law") rfl))
  cases e
  have b := FunD.bindsA (ps := ["script"]) F23 fun _ _ _ _ _ _ us hl => match us, hl with | [_], _ => rfl
  refine ⟨fd23, fun s v => b s [v] rfl, fun base _ _ => ?_⟩
  have c__law_bag := cal__law_bag (P := P) (w := w) (base := base) m_abs F0 (He.glo_ok X G (c.fact 0 (f := .glo "_law_bag") rfl))
  have c__law_take := cal__law_take (P := P) (w := w) (base := base) m_int F1 (He.glo_ok X G (c.fact 1 (f := .glo "_law_take") rfl))
  have c__law_some := cal__law_some (P := P) (w := w) (base := base) m_len c__law_take F2 (He.glo_ok X G (c.fact 2 (f := .glo "_law_some") rfl))
  have c__law_dungeon := cal__law_dungeon (P := P) (w := w) (base := base) m_int m_len m_max m_min m_range m_sum m_tuple c__law_some c__law_take F3 (He.glo_ok X G (c.fact 3 (f := .glo "_law_dungeon") rfl))
  have c__law_up := cal__law_up (P := P) (w := w) (base := base) m_len m_range F4 (He.glo_ok X G (c.fact 4 (f := .glo "_law_up") rfl))
  have c__law_branch := cal__law_branch (P := P) (w := w) (base := base) m_len m_range c__law_up F5 (He.glo_ok X G (c.fact 5 (f := .glo "_law_branch") rfl))
  have c__law_stumps := cal__law_stumps (P := P) (w := w) (base := base) c__law_branch F6 (He.glo_ok X G (c.fact 6 (f := .glo "_law_stumps") rfl))
  have c__law_net := cal__law_net (P := P) (w := w) (base := base) m_len m_sum F7 (He.glo_ok X G (c.fact 7 (f := .glo "_law_net") rfl))
  have c__law_least := cal__law_least (P := P) (w := w) (base := base) m_min F8 (He.glo_ok X G (c.fact 8 (f := .glo "_law_least") rfl))
  have c__law_row := cal__law_row (P := P) (w := w) (base := base) m_int m_len m_tuple c__law_branch c__law_stumps c__law_net c__law_least F9 (He.glo_ok X G (c.fact 9 (f := .glo "_law_row") rfl))
  have c__law_table := cal__law_table (P := P) (w := w) (base := base) m_len m_range m_tuple c__law_row F10 (He.glo_ok X G (c.fact 10 (f := .glo "_law_table") rfl))
  have c__law_is_barred := cal__law_is_barred (P := P) (w := w) (base := base) F11 (He.glo_ok X G (c.fact 11 (f := .glo "_law_is_barred") rfl))
  have c__law_way_has_bar := cal__law_way_has_bar (P := P) (w := w) (base := base) F12 (He.glo_ok X G (c.fact 12 (f := .glo "_law_way_has_bar") rfl))
  have c__law_any_laid := cal__law_any_laid (P := P) (w := w) (base := base) m_len m_list m_max m_range m_tuple c__law_is_barred c__law_way_has_bar c__law_take c__law_some F13 (He.glo_ok X G (c.fact 13 (f := .glo "_law_any_laid") rfl))
  have c__law_alike := cal__law_alike (P := P) (w := w) (base := base) m_repr F14 (He.glo_ok X G (c.fact 14 (f := .glo "_law_alike") rfl))
  have c_children_of := cal_children_of (P := P) (w := w) (base := base) m_enumerate F15 (He.glo_ok X G (c.fact 15 (f := .glo "children_of") rfl))
  have c_way_to := cal_way_to (P := P) (w := w) (base := base) m_sorted m_tuple F16 (He.glo_ok X G (c.fact 16 (f := .glo "way_to") rfl))
  have c_added := cal_added (P := P) (w := w) (base := base) m_sum F17 (He.glo_ok X G (c.fact 17 (f := .glo "added") rfl))
  have c_least_of := cal_least_of (P := P) (w := w) (base := base) m_min F18 (He.glo_ok X G (c.fact 18 (f := .glo "least_of") rfl))
  have c_joined_rows := cal_joined_rows (P := P) (w := w) (base := base) m_enumerate c_added c_least_of F19 (He.glo_ok X G (c.fact 19 (f := .glo "joined_rows") rfl))
  have c_choice_plain := cal_choice_plain (P := P) (w := w) (base := base) c_least_of F20 (He.glo_ok X G (c.fact 20 (f := .glo "choice_plain") rfl))
  have c_choice_opened := cal_choice_opened (P := P) (w := w) (base := base) c_least_of F21 (He.glo_ok X G (c.fact 21 (f := .glo "choice_opened") rfl))
  have c_net_table := cal_net_table (P := P) (w := w) (base := base) m_int m_len m_range m_tuple c_children_of c_way_to c_choice_plain c_joined_rows c_choice_opened F22 (He.glo_ok X G (c.fact 22 (f := .glo "net_table") rfl))
  exact k_law m_range c__law_bag c__law_some c__law_dungeon c__law_any_laid c__law_table c_net_table c__law_alike F23
end K18

/-! B18: the law's plain part. -/
namespace K18
open PySem Pf Lw
theorem tw_oI {o : Option Int} (h : ∀ m, o = some m → m.natAbs ≤ 100000) : Tw 1921 0 (oI o) := by
  cases o with
  | none => exact tw_non.up (by omega) (Nat.le_refl _)
  | some m => exact tw_int (Nat.lt_of_le_of_lt (h m rfl) (by decide +kernel))
theorem row_abs {rs : List Room} (hn : rs.length ≤ 11) {small : List Nat} (hs : ∀ x ∈ small, x ≤ 100) {K : Lw.Kind} {v : Nat} {r : Option Int × Option Int} (h : RowOf rs K (wI rs small) v r) : (∀ m, r.1 = some m → m.natAbs ≤ 100000) ∧ ∀ m, r.2 = some m → m.natAbs ≤ 100000 := by
  have key : ∀ q, (netI (wI rs small) q rs.length).natAbs ≤ 100000 := fun q => by
    have h1 := netI_abs (w := wI rs small) (q := q) (b := 101) (wI_abs hs) rs.length
    have h2 : rs.length * 101 ≤ 11 * 101 := Nat.mul_le_mul_right _ hn
    omega
  constructor
  · intro m hm
    have := h.all
    rw [hm] at this
    obtain ⟨⟨q, _, e⟩, _⟩ := this
    rw [← e]; exact key q
  · intro m hm
    have := h.lack
    rw [hm] at this
    obtain ⟨⟨q, _, _, e⟩, _⟩ := this
    rw [← e]; exact key q
theorem told_table {rs : List Room} (hn : rs.length ≤ 11) {small : List Nat} (hs : ∀ x ∈ small, x ≤ 100) {K K' : Lw.Kind} {R S : Nat → Option Int × Option Int}
    (hR : ∀ u, u < rs.length → RowOf rs K (wI rs small) u (R u)) (hS : ∀ u, u < rs.length → RowOf rs K' (wI rs small) u (S u)) : Told (.tup ((List.range rs.length).map fun u => rowD (R u) (S u))) := by
  have h1 : ∀ d ∈ (List.range rs.length).map (fun u => rowD (R u) (S u)), Tw 8000 1 d := fun d hd => by
    obtain ⟨u, hu, rfl⟩ := List.mem_map.mp hd
    have hu := List.mem_range.mp hu
    have a := row_abs hn hs (hR u hu)
    have b := row_abs hn hs (hS u hu)
    have := tw_tup (ds := [oI (R u).1, oI (R u).2, oI (S u).1, oI (S u).2]) (w := 1921) (n := 0) fun d hd => by
      have hd : d = oI (R u).1 ∨ d = oI (R u).2 ∨ d = oI (S u).1 ∨ d = oI (S u).2 := by simpa using hd
      rcases hd with z | z | z | z
      · subst z; exact tw_oI a.1
      · subst z; exact tw_oI a.2
      · subst z; exact tw_oI b.1
      · subst z; exact tw_oI b.2
    exact this.up (by simp) (Nat.le_refl _)
  have h2 := tw_tup h1
  rw [List.length_map, List.length_range] at h2
  have h3 : rs.length * (8000 + 2) ≤ 11 * (8000 + 2) := Nat.mul_le_mul_right _ hn
  exact h2.told (by omega) (by omega)
theorem one_alike {rs : List Room} {k : Nat} (g : Dun rs k) {big : Option Nat} {small : List Nat} (hL : Laid rs big small) :
    ∃ T, v_net_table (dunD rs k) (laidD big small) = .ok T ∧ v__law_table (dunD rs k) (laidD big small) = .ok T ∧ v__law_alike T T = .ok (.bl true) := by
  have hn := g.len
  obtain ⟨R, S, e, hR, hS⟩ := net_spec (k := k) g.toRms (by omega) g.pos hL.len (fun b hb => hL.lt hb)
  exact ⟨_, e, table_spec g.toRms hn hL.len (fun b hb => hL.lt hb) hR hS, alike_same _ (told_table hn hL.few hR hS)⟩
theorem law1_spec (d : D) {b : List D} (hB : Bag b) : ∃ b', vb_law_1 d b = .ok (.nx b') ∧ Bag b' := by
  obtain ⟨m, b1, e1, hB1, hm⟩ : ∃ (m : Nat) (b1 : List D), v__law_some b (.lst [.int 4, .int 9, .int 6]) = .ok (nD m, b1) ∧ Bag b1 ∧ 1 ≤ m ∧ m ≤ 10 := by
    obtain ⟨d, b1, e1, hB1, hd⟩ := some_lst (ds := [.int 4, .int 9, .int 6]) hB (by simp) (by simp)
    have hd : d = .int 4 ∨ d = .int 9 ∨ d = .int 6 := by simpa using hd
    rcases hd with z | z | z
    · exact ⟨4, b1, by rw [e1, z]; rfl, hB1, by omega⟩
    · exact ⟨9, b1, by rw [e1, z]; rfl, hB1, by omega⟩
    · exact ⟨6, b1, by rw [e1, z]; rfl, hB1, by omega⟩
  obtain ⟨rs, k, b2, e2, hB2, g, _⟩ := dungeon_spec hB1 hm.1 hm.2
  have hn := g.len
  obtain ⟨big, small, b3, e3, hB3, hL⟩ := any_laid_spec (k := k) g.toRms (by omega) hB2
  obtain ⟨big', small', b4, e4, hB4, hL'⟩ := any_laid_spec (k := k) g.toRms (by omega) hB3
  obtain ⟨T, t1, t2, t3⟩ := one_alike g hL
  obtain ⟨T', t1', t2', t3'⟩ := one_alike g hL'
  refine ⟨b4, ?_, hB4⟩
  unfold vb_law_1
  rw [e1, okb]
  dsimp only
  rw [e2, okb]
  dsimp only
  rw [e3, okb]
  dsimp only
  rw [e4, okb]
  dsimp only
  rw [t2, okb, t1, okb, t3, okb, truV_bl, okb, if_neg (by simp), t1', okb, t2', okb, t3', okb, truV_bl, okb, if_neg (by simp), okb, t3, okb, truV_bl, okb, if_neg (by simp)]
theorem pure_law (ns : List Int) (hl : ns.length ≤ 63) (hb : ∀ k ∈ ns, Builtin.Int.intBits k ≤ 1048576) : ∃ o, f_law [scriptD ns] = .ok (.fz (.bl true), o) := by
  obtain ⟨b, e1, hB⟩ := bag_spec hl
  obtain ⟨b', e2, _⟩ := forV_inv Bag (f := vb_law_1) (ds := (List.range 2).map nD) (fun d _ s hs => law1_spec d hs) b hB
  refine ⟨[], ?_⟩
  unfold scriptD
  rw [e_law]
  unfold v_law
  rw [e1, okb, okb, show rng1V (.int 2) = _ from rng1_lit (k := 2) (n := 2) rfl (by omega), okb, e2, okb]
  rfl
end K18

open PySem PySem.W PySem.Calls PyProof.Rows
theorem PySem.Challenge.cw_wellstrewn_k18_net_tables_by_all_stumps_holds : PySem.Challenge.rw_wellstrewn_k18_net_tables_by_all_stumps.Holds := by
  w_on; o_law
  refine HandSHeadRun.head_any (r := OpenLaw.row PySem.Challenge.rw_wellstrewn_k18_net_tables_by_all_stumps) (q := view (OpenLaw.row PySem.Challenge.rw_wellstrewn_k18_net_tables_by_all_stumps).prog [26]) (H := K18.hk) (ob := K18.ob) (M := 4000) (loose := ["children_of", "way_to", "least_of", "added", "joined_rows", "choice_plain", "choice_opened", "net_table", "_law_bag", "_law_take", "_law_some", "_law_alike", "_law_dungeon", "_law_is_barred", "_law_net", "_law_way_has_bar", "_law_any_laid", "_law_up", "_law_branch", "_law_stumps", "_law_least", "_law_row", "_law_table"]) (d := HandSHeadRun.topDef (OpenLaw.row PySem.Challenge.rw_wellstrewn_k18_net_tables_by_all_stumps).prog 26) (kwd := []) K18.ob_eq
    (by kernel_rfl) (fun s => by kernel_rfl) K18.run (by kernel_rfl) (by kernel_rfl) (by kernel_rfl) (by rfl) (by first | assumption | decide +kernel) (by decide +kernel) ⟨rfl, rfl, rfl, rfl, rfl, by decide +kernel⟩ ?hw ?hc
  case hw => w_witness2
  case hc =>
    refine Pf.walk_top (l := PySem.Challenge.rw_wellstrewn_k18_net_tables_by_all_stumps) (n := 63) (k := 6) (x := "script") rfl (by decide) (by kernel_rfl) ⟨rfl, by decide, by decide⟩ ?G K18.pure_law
    intro w mg fa h Y hm hmg0
    obtain ⟨K, KX, c⟩ := Y
    have hmg : mg ("law" : PySem.Str) = some (.ref fa) := by
      have e : (HandSHeadRun.topDef (OpenLaw.row PySem.Challenge.rw_wellstrewn_k18_net_tables_by_all_stumps).prog 26).name = ("law" : PySem.Str) := by kernel_rfl
      rw [← e]
      exact hmg0
    obtain ⟨fd, hb, hF⟩ := K18.facts (P := (PySem.Challenge.rw_wellstrewn_k18_net_tables_by_all_stumps).prog) (w := w) KX hm hmg c
    exact ⟨K, fd, KX, hb, hF⟩
