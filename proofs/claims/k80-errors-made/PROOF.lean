import PyProof.Rows.All
import Wide.All
import OpenK.AllK
import Wide.FinOn
import HandS.ForMost
import HandS.ForExc
import HandS.ExcInit
import HandS.Wide
import HandS.Deep
import PyProof.P3In
import HandS.Flow
import HandS.Star
import HandS.ExcCtx
import HandS.Iter
import KE.GoesMore
import HandS.Style
import HandS.IsInst
import HandS.Property
import HandS.OwnEq
import HandS.WordsExc
import PyProof.InstNe
import HandS.WrittenGet
import HandS.Dict
import HandS.SortInts
import HandS.Defaults
import HandS.DictComp
import HandS.More
import HandS.Text
import HandS.RaiseMore
import PyProof.ReprRoads
import PyProof.StrOps2
import HandS.Nested
import KE.KExcSuper
import HandS.NestedHot
import HandS.ExcInitHot
import HandS.ExcField
import HandS.ExcIs
import HandS.TryMany
import HandS.SuiteRaise
import HandS.RaiseFrom
import HandS.MakeKw
import HandS.Head0
import HandS.Head1
import HandS.Head2
import HandS.HeadEnd
import HandS.HeadHook1
import HandS.HeadHook2
import HandS.HeadHook3
import HandS.HeadHook4
import KE.IntTextLaws
import PySem.Challenge.RW_stridelanes_k80_errors_made
set_option Elab.async false
set_option linter.all false
set_option maxRecDepth 100000
set_option maxHeartbeats 4000000
/-! DL1: data as trees, what a def owns, the relation to the abstract heap; the monad of results. -/
namespace DL
open PySem L2

/-! ### data -/
inductive D where
  | non | bl (b : Bool) | int (i : Int) | str (x : Str) | tup (l : List D) | lst (l : List D) | obj (c : Nat) (l : List D) | scr (l : List Int) | exn (c : Nat) (d : D)

/-- the attributes of a class's instances, in order (the classes are numbered) -/
def clsNames : Nat → List Str
  | 0 => ["lane_count", "kept_statements", "kept_barriers"]
  | 1 => ["many", "first", "first_step", "second", "second_step"]
  | 2 => ["row", "a", "b", "c", "d", "lane"]
  | 3 => ["past"]
  | _ => []

/-- where the classes stand; what is being handled: the exception, its dict, its class's number -/
structure AdrT where
  f : Nat → Addr
  hx : List (Addr × Addr × Nat)
instance : CoeFun AdrT fun _ => Nat → Addr := ⟨AdrT.f⟩
/-- a thing that a def may still change -/
inductive O where
  | lst (l : List D)
  | dK (kvs : List (Key × D))
  | dT (kvs : List (List Key × D))
  | obj (c : Nat) (fs : List (Str × D))
  | bag (great : List Int) (left turn blend : Int)

/-- what a name holds: nothing, data that stays, a thing of the def's own, a thing of the caller's that it may change -/
inductive Slot where
  | no | frz (d : D) | own (o : O) | io (o : O) | hnd (c : Nat) (d : D)

inductive Res (α : Type) where
  | bad | ok (a : α) (ρ : List Slot) | exc (c : Nat) (d : D) (ρ : List Slot)

abbrev M (α : Type) := List Slot → Res α

namespace Res
def bind {α β : Type} (r : Res α) (k : α → M β) : Res β := match r with
  | .bad => .bad
  | .ok a ρ => k a ρ
  | .exc c d ρ => .exc c d ρ
@[simp] theorem bind_bad {α β : Type} (k : α → M β) : (Res.bad : Res α).bind k = .bad := rfl
@[simp] theorem bind_ok {α β : Type} (a : α) (ρ : List Slot) (k : α → M β) : (Res.ok a ρ).bind k = k a ρ := rfl
@[simp] theorem bind_exc {α β : Type} (c : Nat) (d : D) (ρ : List Slot) (k : α → M β) : (Res.exc c d ρ : Res α).bind k = .exc c d ρ := rfl
end Res

/-! ### heaps -/
/-- an exception of the class at C, its dict at x -/
def IsEx (a C x : Addr) (o : HO) : Prop := o = exo a C (some x) ∨ ∃ oe u, o = .frz oe u ∧ Zc (.ref C) (some x) oe ∧ ∃ vs, oe.data = .fields vs
def IsXd (x : Addr) (v : V) (o : HO) : Prop := o = exd x [(("value" : Str), v)] ∨ o = .xd [(("value" : Str), v)]
variable {K : PySem.W.Frag} {adr : AdrT}
mutual
def Rep (K : PySem.W.Frag) (adr : AdrT) (F : Hp) : D → V → Prop
  | .non, v => v = .non
  | .bl b, v => v = .bl b
  | .int i, v => v = .int i
  | .str x, v => v = .str x
  | .tup l, v => ∃ a vs, v = .ref a ∧ SqT K F a vs ∧ Reps K adr F l vs
  | .lst l, v => ∃ a vs, v = .ref a ∧ F a = some (.lst vs) ∧ Reps K adr F l vs
  | .scr l, v => ∃ a, v = .ref a ∧ SqL K F a (l.map V.int)
  | .exn c d, v => ∃ a x o o2 w, v = .ref a ∧ F a = some o ∧ IsEx a (adr c) x o ∧ F x = some o2 ∧ IsXd x w o2 ∧ Rep K adr F d w
  | .obj c l, v => ∃ a dx fvs, v = .ref a ∧ F a = some (.ins (adr c) dx fvs) ∧ fvs.map (·.1) = clsNames c ∧ Reps K adr F l (fvs.map (·.2))
def Reps (K : PySem.W.Frag) (adr : AdrT) (F : Hp) : List D → List V → Prop
  | [], vs => vs = []
  | d :: l, vs => ∃ v r, vs = v :: r ∧ Rep K adr F d v ∧ Reps K adr F l r
end

mutual
theorem Rep.mono {F F' : Hp} (h : Same F F') : ∀ (d : D) (v : V), Rep K adr F d v → Rep K adr F' d v
  | .non, _, r => r
  | .bl _, _, r => r
  | .int _, _, r => r
  | .str _, _, r => r
  | .tup l, _, ⟨a, vs, e, s, r⟩ => by
    refine ⟨a, vs, e, ?_, Reps.mono h l vs r⟩
    rcases s with (s | ⟨o, s⟩) | s
    · exact .inl (.inl (h _ _ s))
    · exact .inl (.inr ⟨o, h _ _ s⟩)
    · exact .inr s
  | .lst l, _, ⟨a, vs, e, s, r⟩ => ⟨a, vs, e, h _ _ s, Reps.mono h l vs r⟩
  | .scr l, _, ⟨a, e, s⟩ => ⟨a, e, h.seq s⟩
  | .exn c d, _, ⟨a, x, o, o2, w, e, h1, h2, h3, h4, r⟩ => ⟨a, x, o, o2, w, e, h _ _ h1, h2, h _ _ h3, h4, Rep.mono h d w r⟩
  | .obj c l, _, ⟨a, dx, fvs, e, s, n, r⟩ => ⟨a, dx, fvs, e, h _ _ s, n, Reps.mono h l _ r⟩
theorem Reps.mono {F F' : Hp} (h : Same F F') : ∀ (l : List D) (vs : List V), Reps K adr F l vs → Reps K adr F' l vs
  | [], _, r => r
  | d :: l, _, ⟨v, r, e, h1, h2⟩ => ⟨v, r, e, Rep.mono h d v h1, Reps.mono h l r h2⟩
end
theorem seqT_same {F F' : Hp} {a : Addr} {vs : List V} (h : Same F F') (s : SqT K F a vs) : SqT K F' a vs := by
  rcases s with (s | ⟨o, s⟩) | s
  · exact .inl (.inl (h _ _ s))
  · exact .inl (.inr ⟨o, h _ _ s⟩)
  · exact .inr s
theorem Reps.length {F : Hp} : ∀ {l : List D} {vs : List V}, Reps K adr F l vs → l.length = vs.length
  | [], _, h => by rw [show _ = [] from h]; rfl
  | d :: l, _, ⟨v, r, e, _, h2⟩ => by rw [e, List.length_cons, List.length_cons, Reps.length h2]
theorem Reps.get {F : Hp} : ∀ {l : List D} {vs : List V} {i : Nat} {d : D}, Reps K adr F l vs → l[i]? = some d → ∃ v, vs[i]? = some v ∧ Rep K adr F d v
  | [], _, i, _, _, h => by simp at h
  | d :: l, _, 0, _, ⟨v, r, e, h1, _⟩, h => by
    simp at h; subst h; exact ⟨v, by rw [e]; rfl, h1⟩
  | d :: l, _, i + 1, _, ⟨v, r, e, _, h2⟩, h => by
    obtain ⟨v', h3, h4⟩ := Reps.get (i := i) h2 (by simpa using h)
    exact ⟨v', by rw [e]; simpa using h3, h4⟩
theorem Reps.append {F : Hp} : ∀ {l l' : List D} {vs vs' : List V}, Reps K adr F l vs → Reps K adr F l' vs' → Reps K adr F (l ++ l') (vs ++ vs')
  | [], _, _, _, h, h' => by rw [show _ = [] from h]; exact h'
  | d :: l, _, _, _, ⟨v, r, e, h1, h2⟩, h' => ⟨v, r ++ _, by rw [e]; rfl, h1, Reps.append h2 h'⟩
theorem Reps.one {F : Hp} {d : D} {v : V} (h : Rep K adr F d v) : Reps K adr F [d] [v] := ⟨v, [], rfl, h, rfl⟩
theorem Reps.drop {F : Hp} : ∀ (n : Nat) {l : List D} {vs : List V}, Reps K adr F l vs → Reps K adr F (l.drop n) (vs.drop n)
  | 0, _, _, h => h
  | n + 1, [], _, h => by rw [show _ = [] from h]; rfl
  | n + 1, d :: l, _, ⟨v, r, e, _, h2⟩ => by rw [e]; exact Reps.drop n h2
theorem Reps.take {F : Hp} : ∀ (n : Nat) {l : List D} {vs : List V}, Reps K adr F l vs → Reps K adr F (l.take n) (vs.take n)
  | 0, _, _, _ => rfl
  | n + 1, [], _, h => by rw [show _ = [] from h]; rfl
  | n + 1, d :: l, _, ⟨v, r, e, h1, h2⟩ => by rw [e]; exact ⟨v, _, rfl, h1, Reps.take n h2⟩
theorem Reps.set {F : Hp} {d : D} {v : V} (h : Rep K adr F d v) : ∀ (n : Nat) {l : List D} {vs : List V}, Reps K adr F l vs → Reps K adr F (l.set n d) (vs.set n v)
  | _, [], _, h => by rw [show _ = [] from h]; rfl
  | 0, d :: l, _, ⟨v, r, e, _, h2⟩ => by rw [e]; exact ⟨_, _, rfl, h, h2⟩
  | n + 1, d :: l, _, ⟨v, r, e, h1, h2⟩ => by rw [e]; exact ⟨_, _, rfl, h1, Reps.set h n h2⟩
theorem Reps.reverse {F : Hp} : ∀ {l : List D} {vs : List V}, Reps K adr F l vs → Reps K adr F l.reverse vs.reverse
  | [], _, h => by rw [show _ = [] from h]; rfl
  | d :: l, _, ⟨v, r, e, h1, h2⟩ => by
    rw [e, List.reverse_cons, List.reverse_cons]
    exact Reps.append (Reps.reverse h2) (Reps.one h1)

/-- which slot owns an address -/
abbrev Own := Addr → Option Nat
def ORep (K : PySem.W.Frag) (adr : AdrT) (w : Own) (i : Nat) (F H : Hp) : O → Addr → Prop
  | .lst l, p => w p = some i ∧ ∃ vs, H p = some (.lst vs) ∧ Reps K adr F l vs
  | .dK kvs, p => w p = some i ∧ ∃ kv, H p = some (.dK kv) ∧ kv.map (·.1) = kvs.map (·.1) ∧ Reps K adr F (kvs.map (·.2)) (kv.map (·.2))
  | .dT kvs, p => w p = some i ∧ ∃ kv, H p = some (.dT kv) ∧ kv.map (·.1) = kvs.map (·.1) ∧ Reps K adr F (kvs.map (·.2)) (kv.map (·.2))
  | .obj c fs, p => w p = some i ∧ ∃ dx fv, H p = some (.ins (adr c) dx fv) ∧ fv.map (·.1) = fs.map (·.1) ∧ Reps K adr F (fs.map (·.2)) (fv.map (·.2))
  | .bag g lf tn bl, p => w p = some i ∧ ∃ q, w q = some i ∧ H q = some (.lst (g.map V.int)) ∧ H p = some (.dK [(.inr "great", .ref q), (.inr "left", .int lf), (.inr "turn", .int tn), (.inr "blend", .int bl)])
theorem ORep.move {w w' : Own} {i j : Nat} {F F' H H' : Hp} (h : Same F F') (hw : ∀ a, w a = some i → w' a = some j ∧ (∀ o, H a = some o → H' a = some o)) : ∀ {o : O} {p : Addr}, ORep K adr w i F H o p → ORep K adr w' j F' H' o p
  | .lst l, p, ⟨e, vs, h1, h2⟩ => ⟨(hw p e).1, vs, (hw p e).2 _ h1, Reps.mono h _ _ h2⟩
  | .dK l, p, ⟨e, vs, h1, h2, h3⟩ => ⟨(hw p e).1, vs, (hw p e).2 _ h1, h2, Reps.mono h _ _ h3⟩
  | .dT l, p, ⟨e, vs, h1, h2, h3⟩ => ⟨(hw p e).1, vs, (hw p e).2 _ h1, h2, Reps.mono h _ _ h3⟩
  | .obj c l, p, ⟨e, dx, vs, h1, h2, h3⟩ => ⟨(hw p e).1, dx, vs, (hw p e).2 _ h1, h2, Reps.mono h _ _ h3⟩
  | .bag g lf tn bl, p, ⟨e, q, eq, h1, h2⟩ => ⟨(hw p e).1, q, (hw q eq).1, (hw q eq).2 _ h1, (hw p e).2 _ h2⟩
def SRep (K : PySem.W.Frag) (adr : AdrT) (w : Own) (i : Nat) (F H : Hp) : Slot → Option V → Prop
  | .no, _ => True
  | .frz d, ov => ∃ v, ov = some v ∧ Rep K adr F d v
  | .own o, ov => ∃ p, ov = some (.ref p) ∧ ORep K adr w i F H o p
  | .io o, ov => ∃ p, ov = some (.ref p) ∧ ORep K adr w i F H o p
  | .hnd c d, ov => ∃ a x v, ov = some (.ref a) ∧ (a, x, c) ∈ adr.hx ∧ F x = some (.xd [(("value" : Str), v)]) ∧ Rep K adr F d v
theorem SRep.move {w w' : Own} {i j : Nat} {F F' H H' : Hp} (h : Same F F') (hw : ∀ a, w a = some i → w' a = some j ∧ (∀ o, H a = some o → H' a = some o)) : ∀ {s : Slot} {ov : Option V}, SRep K adr w i F H s ov → SRep K adr w' j F' H' s ov
  | .no, _, _ => trivial
  | .frz d, _, ⟨v, e, r⟩ => ⟨v, e, Rep.mono h _ _ r⟩
  | .own o, _, ⟨p, e, r⟩ => ⟨p, e, ORep.move h hw r⟩
  | .io o, _, ⟨p, e, r⟩ => ⟨p, e, ORep.move h hw r⟩
  | .hnd c d, _, ⟨a, x, v, e, m, e2, r⟩ => ⟨a, x, v, e, m, h _ _ e2, Rep.mono h _ _ r⟩
/-- a thing does not lean on what other slots own -/
theorem SRep.stay {w w' : Own} {i : Nat} {F F' H H' : Hp} {s : Slot} {ov : Option V} (r : SRep K adr w i F H s ov) (h : Same F F') (hw : ∀ a, w a = some i → w' a = some i ∧ (∀ o, H a = some o → H' a = some o)) : SRep K adr w' i F' H' s ov := SRep.move h hw r

/-- what is fixed while a def's body runs: the written part, the classes, the data and the heap at its entry, what it may change, slots that are never stored -/
structure Wd where
  K : PySem.W.Frag
  adr : AdrT
  F0 : Hp
  H0 : Hp
  I : Own
  fix : List (Nat × V)
  G : Hp
def isIo : Slot → Prop
  | .io _ => True
  | .hnd _ _ => True
  | _ => False
structure WRel (W : Wd) (w : Own) (σ : List (Option V)) (ρ : List Slot) (F H : Hp) : Prop where
  len : σ.length = ρ.length
  sub : Same F H
  alive : ∀ a, W.H0 a ≠ none → H a ≠ none
  old : ∀ a, W.H0 a ≠ none → F a = W.F0 a
  keep : ∀ a o, W.H0 a = some o → W.I a = none → H a = some o
  fix : ∀ p ∈ W.fix, σ[p.1]? = some (some p.2) ∧ ∃ o, ρ[p.1]? = some (.io o)
  owned : ∀ a i, w a = some i → F a = none ∧ H a ≠ none ∧ (W.H0 a = none ∨ (W.I a = some i ∧ ∃ s, ρ[i]? = some s ∧ isIo s))
  guard : ∀ a o, W.G a = some o → H a = some o ∧ F a = none ∧ w a = none
  slots : ∀ i s, ρ[i]? = some s → ∃ ov, σ[i]? = some ov ∧ SRep W.K W.adr w i F H s ov
def ERel (W : Wd) (σ : List (Option V)) (ρ : List Slot) (F H : Hp) : Prop := ∃ w, WRel W w σ ρ F H
section
variable {W : Wd} {w : Own} {σ : List (Option V)} {ρ : List Slot} {F F' H H' : Hp}
theorem upd_new {p : Addr} {o : HO} (h : H p = none) : Same H (upd H p o) := fun b u e => by
  rw [upd_ne (ne_of_none e h)]
  exact e
theorem WRel.free (R : WRel W w σ ρ F H) {p : Addr} (h : H p = none) : F p = none := R.sub.free h
/-- a new object that nobody will change -/
theorem WRel.alloc (R : WRel W w σ ρ F H) {p : Addr} {o : HO} (h : H p = none) : WRel W w σ ρ (upd F p o) (upd H p o) ∧ Same F (upd F p o) := by
  have hF := R.free h
  have h0 : W.H0 p = none := by
    cases q : W.H0 p with
    | none => rfl
    | some u => exact absurd h (R.alive p (by rw [q]; exact fun z => nomatch z))
  have sF : Same F (upd F p o) := upd_new hF
  have sH : Same H (upd H p o) := upd_new h
  refine ⟨⟨R.len, fun a u e => ?_, fun a z => ?_, fun a z => ?_, fun a u e z => sH _ _ (R.keep a u e z), R.fix, fun a i e => ?_, fun a u e => ?_, fun i s e => ?_⟩, sF⟩
  · by_cases ha : a = p
    · subst ha; rw [upd_same] at e ⊢; exact e
    · rw [upd_ne ha] at e ⊢; exact R.sub a u e
  · by_cases ha : a = p
    · subst ha; rw [upd_same]; exact fun z => nomatch z
    · rw [upd_ne ha]; exact R.alive a z
  · have ha : a ≠ p := fun q => by subst q; exact z h0
    rw [upd_ne ha]; exact R.old a z
  · obtain ⟨h1, h2, h3⟩ := R.owned a i e
    have ha : a ≠ p := fun q => by subst q; exact h2 h
    exact ⟨by rw [upd_ne ha]; exact h1, by rw [upd_ne ha]; exact h2, h3⟩
  · obtain ⟨h1, h2, h3⟩ := R.guard a u e
    have ha : a ≠ p := fun q => by subst q; rw [h] at h1; cases h1
    exact ⟨sH _ _ h1, by rw [upd_ne ha]; exact h2, h3⟩
  · obtain ⟨ov, h1, h2⟩ := R.slots i s e
    exact ⟨ov, h1, h2.stay sF fun a z => ⟨z, fun o q => sH _ _ q⟩⟩
/-- a new object that is tracked, of no use any more -/
theorem WRel.litter (R : WRel W w σ ρ F H) {p : Addr} {o : HO} (h : H p = none) : WRel W w σ ρ F (upd H p o) := by
  have sH : Same H (upd H p o) := upd_new h
  refine ⟨R.len, R.sub.trans sH, fun a z => ?_, R.old, fun a u e z => sH _ _ (R.keep a u e z), R.fix, fun a i e => ?_, fun a u e => ⟨sH _ _ (R.guard a u e).1, (R.guard a u e).2⟩, fun i s e => ?_⟩
  · cases q : H a with
    | none => exact absurd q (R.alive a z)
    | some u => rw [sH a u q]; exact fun z => nomatch z
  · obtain ⟨h1, h2, h3⟩ := R.owned a i e
    have ha : a ≠ p := fun q => by subst q; exact h2 h
    exact ⟨h1, by rw [upd_ne ha]; exact h2, h3⟩
  · obtain ⟨ov, h1, h2⟩ := R.slots i s e
    exact ⟨ov, h1, h2.stay (Same.refl _) fun a z => ⟨z, fun o q => sH _ _ q⟩⟩
/-- one more slot, at the end (a value on the way) -/
theorem WRel.pushFrz (R : WRel W w σ ρ F H) {d : D} {v : V} (r : Rep W.K W.adr F d v) : WRel W w (σ ++ [some v]) (ρ ++ [.frz d]) F H := by
  refine ⟨by rw [List.length_append, List.length_append, R.len]; rfl, R.sub, R.alive, R.old, R.keep, fun p hp => ?_, fun a i e => ?_, R.guard, fun i s e => ?_⟩
  · obtain ⟨h, o, h2⟩ := R.fix p hp
    refine ⟨?_, o, ?_⟩
    · rw [List.getElem?_append_left (by exact (List.getElem?_eq_some_iff.mp h).1)]
      exact h
    · rw [List.getElem?_append_left (by exact (List.getElem?_eq_some_iff.mp h2).1)]
      exact h2
  · obtain ⟨h1, h2, h3⟩ := R.owned a i e
    refine ⟨h1, h2, h3.imp id fun ⟨z, s, e1, e2⟩ => ⟨z, s, ?_, e2⟩⟩
    rw [List.getElem?_append_left (List.getElem?_eq_some_iff.mp e1).1]
    exact e1
  · by_cases hi : i < ρ.length
    · rw [List.getElem?_append_left hi] at e
      obtain ⟨ov, h1, h2⟩ := R.slots i s e
      exact ⟨ov, by rw [List.getElem?_append_left (by rw [R.len]; exact hi)]; exact h1, h2⟩
    · rw [List.getElem?_append_right (by omega)] at e
      have hi' : i = ρ.length := by
        have := (List.getElem?_eq_some_iff.mp e).1
        simp at this; omega
      subst hi'
      simp at e; subst e
      refine ⟨some v, ?_, v, rfl, r⟩
      rw [← R.len, List.getElem?_append_right (Nat.le_refl _)]; simp
theorem WRel.pushOwn (R : WRel W w σ ρ F H) {w' : Own} {o : O} {p : Addr} (hw : ∀ a i, w a = some i → w' a = some i) (hn : ∀ a i, w' a = some i → w a = some i ∨ (i = ρ.length ∧ F a = none ∧ H a ≠ none ∧ W.H0 a = none ∧ W.G a = none))
    (r : ORep W.K W.adr w' ρ.length F H o p) : WRel W w' (σ ++ [some (.ref p)]) (ρ ++ [.own o]) F H := by
  refine ⟨by rw [List.length_append, List.length_append, R.len]; rfl, R.sub, R.alive, R.old, R.keep, fun p hp => ?_, fun a i e => ?_, fun a u e => ?_, fun i s e => ?_⟩
  · obtain ⟨h, o, h2⟩ := R.fix p hp
    refine ⟨?_, o, ?_⟩
    · rw [List.getElem?_append_left (by exact (List.getElem?_eq_some_iff.mp h).1)]
      exact h
    · rw [List.getElem?_append_left (by exact (List.getElem?_eq_some_iff.mp h2).1)]
      exact h2
  · rcases hn a i e with e | ⟨_, e1, e2, e3, _⟩
    · obtain ⟨h1, h2, h3⟩ := R.owned a i e
      refine ⟨h1, h2, h3.imp id fun ⟨z, s, e1, e2⟩ => ⟨z, s, ?_, e2⟩⟩
      rw [List.getElem?_append_left (List.getElem?_eq_some_iff.mp e1).1]
      exact e1
    · exact ⟨e1, e2, .inl e3⟩
  · obtain ⟨h1, h2, h3⟩ := R.guard a u e
    refine ⟨h1, h2, ?_⟩
    cases q : w' a with
    | none => rfl
    | some j =>
      rcases hn a j q with z | ⟨_, _, _, _, z⟩
      · rw [h3] at z; cases z
      · rw [e] at z; cases z
  · by_cases hi : i < ρ.length
    · rw [List.getElem?_append_left hi] at e
      obtain ⟨ov, h1, h2⟩ := R.slots i s e
      exact ⟨ov, by rw [List.getElem?_append_left (by rw [R.len]; exact hi)]; exact h1, h2.stay (Same.refl _) fun a z => ⟨hw _ _ z, fun o q => q⟩⟩
    · rw [List.getElem?_append_right (by omega)] at e
      have hi' : i = ρ.length := by
        have := (List.getElem?_eq_some_iff.mp e).1
        simp at this; omega
      subst hi'
      simp at e; subst e
      refine ⟨some (.ref p), ?_, p, rfl, r⟩
      rw [← R.len, List.getElem?_append_right (Nat.le_refl _)]; simp
/-- the value on the way is forgotten -/
theorem WRel.pop {ov : Option V} {s : Slot} (R : WRel W w (σ ++ [ov]) (ρ ++ [s]) F H) (hf : ∀ p ∈ W.fix, p.1 < ρ.length) : WRel W (fun a => if w a = some ρ.length then none else w a) σ ρ F H := by
  have hl : σ.length = ρ.length := by
    have := R.len
    rw [List.length_append, List.length_append] at this
    simpa using this
  have hwi : ∀ a i, (if w a = some ρ.length then none else w a) = some i → w a = some i ∧ i ≠ ρ.length := fun a i e => by
    by_cases h : w a = some ρ.length
    · rw [if_pos h] at e; cases e
    · rw [if_neg h] at e
      refine ⟨e, fun q => h (by rw [e, q])⟩
  refine ⟨hl, R.sub, R.alive, R.old, R.keep, fun p hp => ?_, fun a i e => ?_, fun a u e => ⟨(R.guard a u e).1, (R.guard a u e).2.1, by rw [(R.guard a u e).2.2]; rfl⟩, fun i s' e => ?_⟩
  · obtain ⟨h, o, h2⟩ := R.fix p hp
    rw [List.getElem?_append_left (by rw [hl]; exact hf p hp)] at h
    rw [List.getElem?_append_left (hf p hp)] at h2
    exact ⟨h, o, h2⟩
  · obtain ⟨e, hi⟩ := hwi a i e
    obtain ⟨h1, h2, h3⟩ := R.owned a i e
    refine ⟨h1, h2, h3.imp id fun ⟨z, s', e1, e2⟩ => ⟨z, s', ?_, e2⟩⟩
    by_cases h : i < ρ.length
    · rw [List.getElem?_append_left h] at e1; exact e1
    · have := (List.getElem?_eq_some_iff.mp e1).1
      rw [List.length_append] at this
      simp at this; omega
  · have hi := (List.getElem?_eq_some_iff.mp e).1
    obtain ⟨ov', h1, h2⟩ := R.slots i s' (by rw [List.getElem?_append_left hi]; exact e)
    rw [List.getElem?_append_left (by rw [hl]; exact hi)] at h1
    refine ⟨ov', h1, h2.stay (Same.refl _) fun a z => ⟨?_, fun o q => q⟩⟩
    rw [z, if_neg (fun q => by have := Option.some.inj q; omega)]
/-- the value on the way is stored in a slot -/
theorem WRel.store {v : V} {s : Slot} {i : Nat} (R : WRel W w (σ ++ [some v]) (ρ ++ [s]) F H) (hio : ∀ o, ρ[i]? ≠ some (.io o)) (hi : i < ρ.length) (hs : ¬ isIo s) :
    ERel W (σ.set i (some v)) (ρ.set i s) F H := by
  have hl : σ.length = ρ.length := by
    have := R.len
    rw [List.length_append, List.length_append] at this
    simpa using this
  refine ⟨fun a => if w a = some i then none else if w a = some ρ.length then some i else w a, by rw [List.length_set, List.length_set, hl], R.sub, R.alive, R.old, R.keep, fun p hp => ?_, fun a j e => ?_, fun a u e => ⟨(R.guard a u e).1, (R.guard a u e).2.1, by rw [(R.guard a u e).2.2]; rfl⟩, fun j s' e => ?_⟩
  · obtain ⟨h, o, h2⟩ := R.fix p hp
    have hlt : p.1 < ρ.length := by
      have h3 := (List.getElem?_eq_some_iff.mp h2).1
      rw [List.length_append] at h3
      simp at h3
      rcases Nat.lt_or_eq_of_le (Nat.le_of_lt_succ h3) with h4 | h4
      · exact h4
      · rw [h4, List.getElem?_append_right (Nat.le_refl _)] at h2
        simp at h2
        subst h2
        exact absurd trivial hs
    rw [List.getElem?_append_left (by rw [hl]; exact hlt)] at h
    rw [List.getElem?_append_left hlt] at h2
    have h1 : i ≠ p.1 := fun q => hio o (by rw [q]; exact h2)
    rw [List.getElem?_set_ne h1, List.getElem?_set_ne h1]
    exact ⟨h, o, h2⟩
  · by_cases h1 : w a = some i
    · rw [if_pos h1] at e; cases e
    · rw [if_neg h1] at e
      by_cases h2 : w a = some ρ.length
      · rw [if_pos h2] at e
        obtain ⟨g1, g2, g3⟩ := R.owned a _ h2
        refine ⟨g1, g2, .inl ?_⟩
        rcases g3 with g3 | ⟨_, s', e1, e2⟩
        · exact g3
        · rw [List.getElem?_append_right (Nat.le_refl _)] at e1
          simp at e1
          subst e1
          exact absurd e2 hs
      · rw [if_neg h2] at e
        obtain ⟨g1, g2, g3⟩ := R.owned a _ e
        refine ⟨g1, g2, g3.imp id fun ⟨z, s', e1, e2⟩ => ⟨z, s', ?_, e2⟩⟩
        have hj : j ≠ i := fun q => h1 (by rw [e, q])
        have := (List.getElem?_eq_some_iff.mp e1).1
        rw [List.length_append] at this
        simp at this
        have hj2 : j ≠ ρ.length := fun q => h2 (by rw [e, q])
        rw [List.getElem?_append_left (by omega)] at e1
        rw [List.getElem?_set_ne (Ne.symm hj)]
        exact e1
  · by_cases hj : i = j
    · subst hj
      rw [List.getElem?_set_self hi] at e
      cases e
      obtain ⟨ov, h1, h2⟩ := R.slots ρ.length s (by rw [List.getElem?_append_right (Nat.le_refl _)]; simp)
      rw [← hl, List.getElem?_append_right (Nat.le_refl _)] at h1
      simp at h1
      subst h1
      refine ⟨some v, by rw [List.getElem?_set_self (by rw [hl]; exact hi)], SRep.move (Same.refl _) (fun a z => ⟨?_, fun o q => q⟩) h2⟩
      rw [z, if_neg (fun q => by have := Option.some.inj q; omega), if_pos rfl]
    · rw [List.getElem?_set_ne hj] at e
      have hj' := (List.getElem?_eq_some_iff.mp e).1
      obtain ⟨ov, h1, h2⟩ := R.slots j s' (by rw [List.getElem?_append_left hj']; exact e)
      rw [List.getElem?_append_left (by rw [hl]; exact hj')] at h1
      refine ⟨ov, by rw [List.getElem?_set_ne hj]; exact h1, h2.stay (Same.refl _) fun a z => ⟨?_, fun o q => q⟩⟩
      rw [z, if_neg (fun q => hj (Option.some.inj q).symm), if_neg (fun q => by have := Option.some.inj q; omega)]
end
end DL

set_option maxHeartbeats 4000000
/-! DL2: the judgements; names, constants, operators, comparisons, tests. -/
namespace DL
open PySem L2

/-- the exception's own dict, in the data -/
def ExcR (W : Wd) (F : Hp) (c : Nat) (d : D) (cls : Value) (dx : Option Addr) : Prop :=
  cls = .ref (W.adr c) ∧ ∃ x v, dx = some x ∧ F x = some (.xd [(("value" : Str), v)]) ∧ Rep W.K W.adr F d v
/-- what is wanted behind -/
def Po {α : Type} (W : Wd) (F : Hp) (Wx : WX) (G : α → List Slot → Hp → Hp → Prop) : Res α → Prop
  | .bad => False
  | .ok a ρ => ∀ F' H', Same F F' → G a ρ F' H'
  | .exc c d ρ => ∀ σ cls dx F' H', Same F F' → ERel W σ ρ F' H' → ExcR W F' c d cls dx → Wx cls dx σ H'
def GD (W : Wd) (σ : List (Option V)) (Q : V → Hp → Prop) : D → List Slot → Hp → Hp → Prop := fun d ρ F' H' => ∀ v, ERel W σ ρ F' H' → Rep W.K W.adr F' d v → Q v H'
def GX (W : Wd) (σ : List (Option V)) (Q : V → Hp → Prop) : Slot → List Slot → Hp → Hp → Prop := fun s ρ F' H' => ∀ v, ERel W (σ ++ [some v]) (ρ ++ [s]) F' H' → ¬ isIo s → s ≠ .no → Q v H'
def GB (W : Wd) (σ : List (Option V)) (Q : Bool → Hp → Prop) : Bool → List Slot → Hp → Hp → Prop := fun b ρ F' H' => ERel W σ ρ F' H' → Q b H'
def GL (W : Wd) (σ : List (Option V)) (Q : List V → Hp → Prop) : List D → List Slot → Hp → Hp → Prop := fun l ρ F' H' => ∀ vs, ERel W σ ρ F' H' → Reps W.K W.adr F' l vs → Q vs H'
abbrev PoD (W : Wd) (σ : List (Option V)) (F : Hp) (Wx : WX) (Q : V → Hp → Prop) : Res D → Prop := Po W F Wx (GD W σ Q)
abbrev PoX (W : Wd) (σ : List (Option V)) (F : Hp) (Wx : WX) (Q : V → Hp → Prop) : Res Slot → Prop := Po W F Wx (GX W σ Q)
abbrev PoB (W : Wd) (σ : List (Option V)) (F : Hp) (Wx : WX) (Q : Bool → Hp → Prop) : Res Bool → Prop := Po W F Wx (GB W σ Q)
abbrev PoL (W : Wd) (σ : List (Option V)) (F : Hp) (Wx : WX) (Q : List V → Hp → Prop) : Res (List D) → Prop := Po W F Wx (GL W σ Q)
theorem Po.sub {α : Type} {W : Wd} {F F' : Hp} {Wx : WX} {G : α → List Slot → Hp → Hp → Prop} (s : Same F F') : ∀ {r : Res α}, Po W F Wx G r → Po W F' Wx G r
  | .bad, h => h
  | .ok _ _, h => fun F2 H2 s2 => h F2 H2 (s.trans s2)
  | .exc _ _ _, h => fun σ c d F2 H2 s2 => h σ c d F2 H2 (s.trans s2)
theorem Po.bind {α β : Type} {W : Wd} {F : Hp} {Wx : WX} {G : β → List Slot → Hp → Hp → Prop} {k : α → M β} : ∀ {r : Res α}, Po W F Wx G (r.bind k) → Po W F Wx (fun a ρ F' _ => Po W F' Wx G (k a ρ)) r
  | .bad, h => h
  | .ok _ _, h => fun _ _ s2 => h.sub s2
  | .exc _ _ _, h => h
theorem Po.imp {α : Type} {W : Wd} {F : Hp} {Wx : WX} {G G' : α → List Slot → Hp → Hp → Prop} : ∀ {r : Res α}, Po W F Wx G r → (∀ a ρ F' H', Same F F' → G a ρ F' H' → G' a ρ F' H') → Po W F Wx G' r
  | .bad, h, _ => h
  | .ok _ _, h, g => fun F2 H2 s2 => g _ _ F2 H2 s2 (h F2 H2 s2)
  | .exc _ _ _, h, _ => h
structure In (X : Cx) (adr : AdrT) (W : Wd) : Prop where
  k : W.K = X.K
  a : W.adr = adr
def DE (X : Cx) (adr : AdrT) (Wx : WX) (e : Expr) (m : M D) : Prop := ∃ t, PE X e t ∧ ∀ W σ ρ F H Q, In X adr W → ERel W σ ρ F H → PoD W σ F Wx Q (m ρ) → t σ H Q
def DX (X : Cx) (adr : AdrT) (Wx : WX) (e : Expr) (m : M Slot) : Prop := ∃ t, PE X e t ∧ ∀ W σ ρ F H Q, In X adr W → ERel W σ ρ F H → PoX W σ F Wx Q (m ρ) → t σ H Q
def DT (X : Cx) (adr : AdrT) (Wx : WX) (e : Expr) (m : M Bool) : Prop := ∃ t, PT X e t ∧ ∀ W σ ρ F H Q, In X adr W → ERel W σ ρ F H → PoB W σ F Wx Q (m ρ) → t σ H Q
def DW (X : Cx) (adr : AdrT) (Wx : WX) (e : Expr) (m : M Bool) : Prop := ∃ t, PW X e t ∧ ∀ W σ ρ F H Q, In X adr W → ERel W σ ρ F H → PoB W σ F Wx Q (m ρ) → t σ H Q
def DA (X : Cx) (adr : AdrT) (Wx : WX) (es : List Expr) (m : M (List D)) : Prop := ∃ t, PA X es t ∧ ∀ W σ ρ F H Q, In X adr W → ERel W σ ρ F H → PoL W σ F Wx Q (m ρ) → t σ H Q

/-! ### names, constants -/
def O.frz : O → Option D
  | .lst l => some (.lst l)
  | .obj c fs => if fs.map (·.1) = clsNames c then some (.obj c (fs.map (·.2))) else none
  | _ => none
def eC (d : D) : M D := fun ρ => .ok d ρ
def eVar (i : Nat) : M D := fun ρ => match ρ[i]? with
  | some (.frz d) => .ok d ρ
  | some (.own o) => (match o.frz with | some d => .ok d (ρ.set i (.frz d)) | none => .bad)
  | _ => .bad
/-- a value for a place that may keep it: a thing of the def's own is frozen -/
def fz (m : M Slot) : M D := fun ρ => (m ρ).bind fun s ρ' => match s with
  | .frz d => .ok d ρ'
  | .own o => (match o.frz with | some d => .ok d ρ' | none => .bad)
  | _ => .bad
def xD (m : M D) : M Slot := fun ρ => (m ρ).bind fun d ρ' => .ok (.frz d) ρ'
/-- a thing of the def's own is handed on (return) -/
def eMov (i : Nat) : M Slot := fun ρ => match ρ[i]? with
  | some (.frz d) => .ok (.frz d) ρ
  | some (.own o) => .ok (.own o) (ρ.set i .no)
  | _ => .bad

section
variable {W : Wd} {w : Own} {σ : List (Option V)} {ρ : List Slot} {F H : Hp}
theorem WRel.freeze {i : Nat} {o : O} {d : D} (R : WRel W w σ ρ F H) (hi : ρ[i]? = some (.own o)) (hd : o.frz = some d) :
    ∃ F' p, Same F F' ∧ WRel W (fun a => if a = p then none else w a) σ (ρ.set i (.frz d)) F' H ∧ σ[i]? = some (some (.ref p)) ∧ Rep W.K W.adr F' d (.ref p) := by
  obtain ⟨ov, h1, p, e1, r⟩ := R.slots i _ hi
  subst e1
  have key : ∃ h : HO, w p = some i ∧ H p = some h ∧ (∀ F', Same F F' → F' p = some h → Rep W.K W.adr F' d (.ref p)) := by
    cases o with
    | lst l =>
      cases hd
      obtain ⟨e, vs, h2, h3⟩ := r
      exact ⟨_, e, h2, fun F' s e => ⟨p, vs, rfl, e, Reps.mono s _ _ h3⟩⟩
    | obj c fs =>
      have hd' : (if fs.map (·.1) = clsNames c then some (D.obj c (fs.map (·.2))) else none) = some d := hd
      by_cases hn : fs.map (·.1) = clsNames c
      · rw [if_pos hn] at hd'
        cases hd'
        obtain ⟨e, dx, fv, h2, h3, h4⟩ := r
        exact ⟨_, e, h2, fun F' s e => ⟨p, dx, fv, rfl, e, h3.trans hn, Reps.mono s _ _ h4⟩⟩
      · rw [if_neg hn] at hd'; cases hd'
    | dK _ => cases hd
    | dT _ => cases hd
    | bag _ _ _ _ => cases hd
  obtain ⟨h, hw, hp, hr⟩ := key
  obtain ⟨o1, o2, o3⟩ := R.owned p i hw
  have h0 : W.H0 p = none := by
    rcases o3 with z | ⟨_, s, z1, z2⟩
    · exact z
    · rw [hi] at z1; cases z1; exact z2.elim
  have sF : Same F (upd F p h) := upd_new o1
  refine ⟨upd F p h, p, sF, ⟨?_, ?_, R.alive, ?_, R.keep, ?_, ?_, ?_, ?_⟩, h1, hr _ sF upd_same⟩
  · rw [List.length_set]; exact R.len
  · intro a u e
    by_cases ha : a = p
    · subst ha; rw [upd_same] at e; cases e; exact hp
    · rw [upd_ne ha] at e; exact R.sub a u e
  · intro a z
    have ha : a ≠ p := fun q => by subst q; exact z h0
    rw [upd_ne ha]; exact R.old a z
  · intro p hp
    obtain ⟨g1, o', g2⟩ := R.fix p hp
    have hne : i ≠ p.1 := fun q => by rw [← q, hi] at g2; cases g2
    exact ⟨g1, o', by rw [List.getElem?_set_ne hne]; exact g2⟩
  · intro a j e
    by_cases ha : a = p
    · rw [if_pos ha] at e; cases e
    · rw [if_neg ha] at e
      obtain ⟨g1, g2, g3⟩ := R.owned a j e
      refine ⟨by rw [upd_ne ha]; exact g1, g2, g3.imp id fun ⟨z, s, e1, e2⟩ => ?_⟩
      by_cases hj : i = j
      · subst hj
        rw [hi] at e1; cases e1; exact e2.elim
      · exact ⟨z, s, by rw [List.getElem?_set_ne hj]; exact e1, e2⟩
  · intro a u e
    obtain ⟨g1, g2, g3⟩ := R.guard a u e
    have ha : a ≠ p := fun q => by subst q; rw [hw] at g3; cases g3
    exact ⟨g1, by rw [upd_ne ha]; exact g2, by rw [if_neg ha]; exact g3⟩
  · intro j s e
    by_cases hj : i = j
    · subst hj
      rw [List.getElem?_set_self (List.getElem?_eq_some_iff.mp hi).1] at e
      cases e
      exact ⟨_, h1, .ref p, rfl, hr _ sF upd_same⟩
    · rw [List.getElem?_set_ne hj] at e
      obtain ⟨ov, g1, g2⟩ := R.slots j s e
      refine ⟨ov, g1, g2.stay sF fun a z => ⟨?_, fun o q => q⟩⟩
      rw [if_neg (fun q => by subst q; rw [hw] at z; exact hj (Option.some.inj z))]
      exact z
theorem WRel.fixLt (R : WRel W w σ ρ F H) : ∀ p ∈ W.fix, p.1 < ρ.length := fun p hp => by
  rw [← R.len]; exact (List.getElem?_eq_some_iff.mp (R.fix p hp).1).1
/-- a value on the way, as data -/
theorem ERel.popD {s : Slot} {v : V} (R : ERel W (σ ++ [some v]) (ρ ++ [s]) F H) (hf : ∀ p ∈ W.fix, p.1 < ρ.length) (hs : s ≠ .no) (hio : ¬ isIo s) :
    (∃ d, s = .frz d ∧ ERel W σ ρ F H ∧ Rep W.K W.adr F d v) ∨ (∃ o, s = .own o ∧ ∀ d, o.frz = some d → ∃ F', Same F F' ∧ ERel W σ ρ F' H ∧ Rep W.K W.adr F' d v) := by
  obtain ⟨w, R⟩ := R
  have hl : σ.length = ρ.length := by
    have := R.len
    rw [List.length_append, List.length_append] at this
    simpa using this
  have el : (ρ ++ [s])[ρ.length]? = some s := by rw [List.getElem?_append_right (Nat.le_refl _)]; simp
  have ev : (σ ++ [some v])[ρ.length]? = some (some v) := by rw [← hl, List.getElem?_append_right (Nat.le_refl _)]; simp
  cases s with
  | no => exact absurd rfl hs
  | io o => exact absurd trivial hio
  | hnd c d => exact absurd trivial hio
  | frz d =>
    obtain ⟨ov, h1, v', h2, h3⟩ := R.slots _ _ el
    rw [ev] at h1
    cases h1; cases h2
    exact .inl ⟨d, rfl, ⟨_, R.pop hf⟩, h3⟩
  | own o =>
    refine .inr ⟨o, rfl, fun d hd => ?_⟩
    obtain ⟨F', p, s1, R1, e1, r1⟩ := R.freeze el hd
    rw [ev] at e1
    cases e1
    have es : (ρ ++ [Slot.own o]).set ρ.length (.frz d) = ρ ++ [.frz d] := by
      rw [List.set_append_right _ _ (Nat.le_refl _)]; simp
    rw [es] at R1
    exact ⟨F', s1, ⟨_, R1.pop hf⟩, r1⟩
theorem ERel.fixLt (R : ERel W σ ρ F H) : ∀ p ∈ W.fix, p.1 < ρ.length := R.elim fun _ R => R.fixLt
theorem ERel.len (R : ERel W σ ρ F H) : σ.length = ρ.length := R.elim fun _ R => R.len
theorem ERel.len2 {v : Option V} {s : Slot} (R : ERel W (σ ++ [v]) (ρ ++ [s]) F H) : σ.length = ρ.length := by
  have := R.len
  rw [List.length_append, List.length_append] at this
  simpa using this
theorem ERel.sub (R : ERel W σ ρ F H) : Same F H := R.elim fun _ R => R.sub
theorem ERel.alloc (R : ERel W σ ρ F H) {p : Addr} {o : HO} (h : H p = none) : ERel W σ ρ (upd F p o) (upd H p o) ∧ Same F (upd F p o) := by
  obtain ⟨w, R⟩ := R
  exact ⟨⟨w, (R.alloc h).1⟩, (R.alloc h).2⟩
theorem ERel.litter (R : ERel W σ ρ F H) {p : Addr} {o : HO} (h : H p = none) : ERel W σ ρ F (upd H p o) := by
  obtain ⟨w, R⟩ := R
  exact ⟨w, R.litter h⟩
theorem ERel.pushFrz (R : ERel W σ ρ F H) {d : D} {v : V} (r : Rep W.K W.adr F d v) : ERel W (σ ++ [some v]) (ρ ++ [.frz d]) F H := by
  obtain ⟨w, R⟩ := R
  exact ⟨w, R.pushFrz r⟩
/-- a new list, the def's own -/
theorem ERel.newOwn (R : ERel W σ ρ F H) {p : Addr} {l : List D} {vs : List V} (h : H p = none) (r : Reps W.K W.adr F l vs) : ERel W (σ ++ [some (.ref p)]) (ρ ++ [.own (.lst l)]) F (upd H p (.lst vs)) := by
  obtain ⟨w, R⟩ := R
  have hF := R.free h
  have h0 : W.H0 p = none := by
    cases q : W.H0 p with
    | none => rfl
    | some u => exact absurd h (R.alive p (by rw [q]; exact fun z => nomatch z))
  have R1 := R.litter (p := p) (o := .lst vs) h
  refine ⟨fun a => if a = p then some ρ.length else w a, R1.pushOwn (fun a i e => ?_) (fun a i e => ?_) ⟨if_pos rfl, vs, upd_same, r⟩⟩
  · rw [if_neg (fun q => by subst q; exact (R.owned a i e).2.1 h)]; exact e
  · by_cases ha : a = p
    · subst ha
      rw [if_pos rfl] at e
      refine .inr ⟨(Option.some.inj e).symm, hF, (by rw [upd_same]; exact Option.some_ne_none _), h0, ?_⟩
      cases q : W.G a with
      | none => rfl
      | some u => rw [(R.guard a u q).1] at h; cases h
    · rw [if_neg ha] at e; exact .inl e
end

section
variable {X : Cx} {adr : AdrT} {Wx : WX} {pos : Pos}
theorem de_fz {e : Expr} {m : M Slot} (h : DX X adr Wx e m) : DE X adr Wx e (fz m) := by
  obtain ⟨t, ht, q⟩ := h
  refine ⟨t, ht, fun W σ ρ F H Q i R p => q W σ ρ F H Q i R (p.bind.imp fun s ρ' F' H' s1 p v R1 h1 h2 => ?_)⟩
  have hf := R.fixLt
  have hl := R.len
  have hl' := R1.len2
  rcases R1.popD (fun p hp => by have := hf p hp; omega) h2 h1 with ⟨d, rfl, R2, r⟩ | ⟨o, rfl, k⟩
  · exact p F' H' (Same.refl _) v R2 r
  · cases ho : o.frz with
    | none => simp only [ho] at p; exact p.elim
    | some d =>
      simp only [ho] at p
      obtain ⟨F2, s2, R2, r⟩ := k d ho
      exact p F2 H' s2 v R2 r
theorem dx_d {e : Expr} {m : M D} (h : DE X adr Wx e m) : DX X adr Wx e (xD m) := by
  obtain ⟨t, ht, q⟩ := h
  exact ⟨t, ht, fun W σ ρ F H Q i R p => q W σ ρ F H Q i R (p.bind.imp fun d ρ' F' H' s1 p v R1 r1 => p F' H' (Same.refl _) v (R1.pushFrz r1) (fun z => z) (fun z => nomatch z))⟩
theorem de_var (i : Nat) {x : Str} (hN : X.N[i]? = some x := by rfl) (hv : Vis X.env.scope x := by first | exact Or.inl rfl | exact Or.inr (Or.inl rfl) | exact Or.inr (Or.inr rfl)) (hd : (x == ("__debug__" : Str)) = false := by decide)
    (hcd : (x == ("__classdict__" : Str)) = false := by decide) : DE X adr Wx (.Name x pos) (eVar i) := by
  refine ⟨tVar i, pe_var hN hv hd hcd, fun W σ ρ F H Q i' R p => ?_⟩
  obtain ⟨w, R⟩ := R
  unfold eVar at p
  cases e : ρ[i]? with
  | none => rw [e] at p; exact p.elim
  | some s =>
    rw [e] at p
    cases s with
    | no => exact p.elim
    | io o => exact p.elim
    | hnd c d => exact p.elim
    | frz d =>
      obtain ⟨ov, h1, v, h2, r⟩ := R.slots i _ e
      subst h2
      exact ⟨v, h1, p F H (Same.refl _) v ⟨w, R⟩ r⟩
    | own o =>
      dsimp only at p
      cases ho : o.frz with
      | none => rw [ho] at p; exact p.elim
      | some d =>
        rw [ho] at p
        obtain ⟨F', q, s1, R1, e1, r1⟩ := R.freeze e ho
        exact ⟨_, e1, p F' H s1 _ ⟨_, R1⟩ r1⟩
theorem dx_mov (i : Nat) {x : Str} (hN : X.N[i]? = some x := by rfl) (hv : Vis X.env.scope x := by first | exact Or.inl rfl | exact Or.inr (Or.inl rfl) | exact Or.inr (Or.inr rfl)) (hd : (x == ("__debug__" : Str)) = false := by decide)
    (hcd : (x == ("__classdict__" : Str)) = false := by decide) : DX X adr Wx (.Name x pos) (eMov i) := by
  refine ⟨tVar i, pe_var hN hv hd hcd, fun W σ ρ F H Q i' R p => ?_⟩
  obtain ⟨w, R⟩ := R
  unfold eMov at p
  cases e : ρ[i]? with
  | none => rw [e] at p; exact p.elim
  | some s =>
    rw [e] at p
    have hi := (List.getElem?_eq_some_iff.mp e).1
    cases s with
    | no => exact p.elim
    | io o => exact p.elim
    | hnd c d => exact p.elim
    | frz d =>
      obtain ⟨ov, h1, v, h2, r⟩ := R.slots i _ e
      subst h2
      exact ⟨v, h1, p F H (Same.refl _) v (ERel.pushFrz ⟨w, R⟩ r) (fun z => z) (fun z => nomatch z)⟩
    | own o =>
      obtain ⟨ov, h1, q, h2, r⟩ := R.slots i _ e
      subst h2
      refine ⟨_, h1, p F H (Same.refl _) _ ⟨fun a => if w a = some i then some ρ.length else w a, ?_⟩ (fun z => z) (fun z => nomatch z)⟩
      refine ⟨by simp [R.len], R.sub, R.alive, R.old, R.keep, fun p hp => ?_, fun a j e2 => ?_, fun a u e2 => ⟨(R.guard a u e2).1, (R.guard a u e2).2.1, by rw [(R.guard a u e2).2.2]; rfl⟩, fun j s e2 => ?_⟩
      · obtain ⟨g1, o', g2⟩ := R.fix p hp
        have hne : i ≠ p.1 := fun q => by rw [← q, e] at g2; cases g2
        exact ⟨by rw [List.getElem?_append_left (by rw [R.len]; exact R.fixLt p hp)]; exact g1, o', by rw [List.getElem?_append_left (by rw [List.length_set]; exact R.fixLt p hp), List.getElem?_set_ne hne]; exact g2⟩
      · by_cases hw : w a = some i
        · obtain ⟨g1, g2, g3⟩ := R.owned a i hw
          refine ⟨g1, g2, .inl ?_⟩
          rcases g3 with z | ⟨_, s, z1, z2⟩
          · exact z
          · rw [e] at z1; cases z1; exact z2.elim
        · rw [if_neg hw] at e2
          obtain ⟨g1, g2, g3⟩ := R.owned a j e2
          refine ⟨g1, g2, g3.imp id fun ⟨z, s, e3, e4⟩ => ⟨z, s, ?_, e4⟩⟩
          have hj : i ≠ j := fun q => hw (by rw [e2, q])
          rw [List.getElem?_append_left (by rw [List.length_set]; exact (List.getElem?_eq_some_iff.mp e3).1), List.getElem?_set_ne hj]
          exact e3
      · by_cases hj : j < ρ.length
        · rw [List.getElem?_append_left (by rw [List.length_set]; exact hj)] at e2
          by_cases hij : i = j
          · subst hij
            rw [List.getElem?_set_self hi] at e2
            cases e2
            exact ⟨_, by rw [List.getElem?_append_left (by rw [R.len]; exact hj)]; exact h1, trivial⟩
          · rw [List.getElem?_set_ne hij] at e2
            obtain ⟨ov, g1, g2⟩ := R.slots j s e2
            refine ⟨ov, by rw [List.getElem?_append_left (by rw [R.len]; exact hj)]; exact g1, g2.stay (Same.refl _) fun a z => ⟨?_, fun o q => q⟩⟩
            rw [if_neg (fun q => by rw [z] at q; exact hij (Option.some.inj q).symm)]; exact z
        · have hj' : j = ρ.length := by
            have := (List.getElem?_eq_some_iff.mp e2).1
            simp at this; omega
          subst hj'
          rw [List.getElem?_append_right (by simp)] at e2
          simp at e2; subst e2
          refine ⟨_, by rw [List.getElem?_append_right (by rw [R.len]; exact Nat.le_refl _), R.len]; simp, q, rfl, ORep.move (Same.refl _) (fun a z => ⟨if_pos z, fun o q => q⟩) r⟩
theorem de_int {i : Int} {j : Nat} : DE X adr Wx (.Constant (.int i) j pos) (eC (.int i)) :=
  ⟨_, pe_int, fun W σ ρ F H Q i' R p => p F H (Same.refl _) _ R rfl⟩
theorem de_bl {b : Bool} {j : Nat} : DE X adr Wx (.Constant (.bool b) j pos) (eC (.bl b)) :=
  ⟨_, pe_bl, fun W σ ρ F H Q i' R p => p F H (Same.refl _) _ R rfl⟩
theorem de_non {j : Nat} : DE X adr Wx (.Constant .none j pos) (eC .non) :=
  ⟨_, pe_non, fun W σ ρ F H Q i' R p => p F H (Same.refl _) _ R rfl⟩
theorem de_str {x : Str} {j : Nat} : DE X adr Wx (.Constant (.str x) j pos) (eC (.str x)) :=
  ⟨_, pe_str, fun W σ ρ F H Q i' R p => p F H (Same.refl _) _ R rfl⟩
/-- a module's constant: an int, a text -/
theorem de_globI {x : Str} {i : Int} {t : Tok} (hg : Gl X x) (hm : X.mg x = some (.int i t)) (hd : (x == ("__debug__" : Str)) = false := by decide) : DE X adr Wx (.Name x pos) (eC (.int i)) :=
  ⟨_, pe_glob (v := .int i) hg hm ⟨t, rfl⟩ hd, fun W σ ρ F H Q i' R p => p F H (Same.refl _) _ R rfl⟩
theorem de_globS {x : Str} {i : Str} {t : Tok} (hg : Gl X x) (hm : X.mg x = some (.str i t)) (hd : (x == ("__debug__" : Str)) = false := by decide) : DE X adr Wx (.Name x pos) (eC (.str i)) :=
  ⟨_, pe_glob (v := .str i) hg hm ⟨t, rfl⟩ hd, fun W σ ρ F H Q i' R p => p F H (Same.refl _) _ R rfl⟩

/-! ### operators -/
def opt {α : Type} (o : Option α) : M α := fun ρ => match o with | some a => .ok a ρ | none => .bad
def e2 (f : D → D → Option D) (ma mb : M D) : M D := fun ρ => (ma ρ).bind fun x ρ1 => (mb ρ1).bind fun y ρ2 => opt (f x y) ρ2
def e1 (f : D → Option D) (ma : M D) : M D := fun ρ => (ma ρ).bind fun x ρ1 => opt (f x) ρ1
/-- a rule's reading on data -/
def Op2 (X : Cx) (adr : AdrT) (r : R2) (f : D → D → Option D) : Prop := ∀ W σ ρ F H Q x y u v d, In X adr W → ERel W σ ρ F H → Rep W.K W.adr F x u → Rep W.K W.adr F y v → f x y = some d →
  (∀ z F' H', Same F F' → ERel W σ ρ F' H' → Rep W.K W.adr F' d z → Q z H') → r u v H Q
def Op1 (X : Cx) (adr : AdrT) (r : V → Hp → VK → Prop) (f : D → Option D) : Prop := ∀ W σ ρ F H Q x u d, In X adr W → ERel W σ ρ F H → Rep W.K W.adr F x u → f x = some d →
  (∀ z F' H', Same F F' → ERel W σ ρ F' H' → Rep W.K W.adr F' d z → Q z H') → r u H Q
theorem opt_some {W : Wd} {F : Hp} {ρ : List Slot} {α : Type} {G : α → List Slot → Hp → Hp → Prop} {o : Option α} (p : Po W F Wx G (opt o ρ)) : ∃ d, o = some d ∧ ∀ F' H', Same F F' → G d ρ F' H' := by
  cases o with
  | none => exact p.elim
  | some d => exact ⟨d, rfl, p⟩
theorem tOp_ok {ma mb : M D} {ta tb : TE} {r : R2} {f : D → D → Option D} (hf : Op2 X adr r f)
    (qa : ∀ W σ ρ F H Q, In X adr W → ERel W σ ρ F H → PoD W σ F Wx Q (ma ρ) → ta σ H Q) (qb : ∀ W σ ρ F H Q, In X adr W → ERel W σ ρ F H → PoD W σ F Wx Q (mb ρ) → tb σ H Q) :
    ∀ W σ ρ F H Q, In X adr W → ERel W σ ρ F H → PoD W σ F Wx Q (e2 f ma mb ρ) → tOp r ta tb σ H Q := fun W σ ρ F H Q i R p => by
  refine qa W σ ρ F H _ i R (p.bind.imp fun x ρ1 F1 H1 s1 p u R1 r1 => qb W σ ρ1 F1 H1 _ i R1 (p.bind.imp fun y ρ2 F2 H2 s2 p v R2 r2 => ?_))
  obtain ⟨d, e, p⟩ := opt_some p
  exact hf W σ ρ2 F2 H2 Q x y u v d i R2 (Rep.mono s2 _ _ r1) r2 e fun z F3 H3 s3 R3 r3 => p F3 H3 s3 z R3 r3
theorem de_op {op : Operator} {r : R2} {f : D → D → Option D} {a b : Expr} {ma mb : M D} (ho : OpR X (binaryOp op) r) (hf : Op2 X adr r f) (ha : DE X adr Wx a ma) (hb : DE X adr Wx b mb) : DE X adr Wx (.BinOp a op b pos) (e2 f ma mb) := by
  obtain ⟨ta, pa, qa⟩ := ha
  obtain ⟨tb, pb, qb⟩ := hb
  exact ⟨_, pe_op ho pa pb, tOp_ok hf qa qb⟩
theorem de_un {op : UnaryOp} {r : V → Hp → VK → Prop} {f : D → Option D} {a : Expr} {ma : M D} (ho : UnR X (unaryOp op) r) (hf : Op1 X adr r f) (ha : DE X adr Wx a ma) : DE X adr Wx (.UnaryOp op a pos) (e1 f ma) := by
  obtain ⟨ta, pa, qa⟩ := ha
  refine ⟨_, pe_un ho pa, fun W σ ρ F H Q i R p => qa W σ ρ F H _ i R (p.bind.imp fun x ρ1 F1 H1 s1 p u R1 r1 => ?_)⟩
  obtain ⟨d, e, p⟩ := opt_some p
  exact hf W σ ρ1 F1 H1 Q x u d i R1 r1 e fun z F3 H3 s3 R3 r3 => p F3 H3 s3 z R3 r3
theorem de_cmp {op : CmpOp} {r : R2} {f : D → D → Option D} {a b : Expr} {ma mb : M D} (ho : OpR X (compareOp op) r) (hf : Op2 X adr r f) (ha : DE X adr Wx a ma) (hb : DE X adr Wx b mb) (hm : behindInMarks op b = false) : DE X adr Wx (.Compare a [op] [b] pos) (e2 f ma mb) := by
  obtain ⟨ta, pa, qa⟩ := ha
  obtain ⟨tb, pb, qb⟩ := hb
  exact ⟨_, pe_cmpR ho pa pb hm, tOp_ok hf qa qb⟩
def bE (m : M D) : M Bool := fun ρ => (m ρ).bind fun x ρ1 => match x with | .bl b => .ok b ρ1 | _ => .bad
theorem tTest_ok {m : M D} {te : TE} (qa : ∀ W σ ρ F H Q, In X adr W → ERel W σ ρ F H → PoD W σ F Wx Q (m ρ) → te σ H Q) :
    ∀ W σ ρ F H (Q : Bool → Hp → Prop), In X adr W → ERel W σ ρ F H → PoB W σ F Wx Q (bE m ρ) → te σ H (fun x H1 => ∃ c, x = .bl c ∧ Q c H1) := fun W σ ρ F H Q i R p => by
  refine qa W σ ρ F H _ i R (p.bind.imp fun x ρ1 F1 H1 s1 p u R1 r1 => ?_)
  cases x with
  | bl b => exact ⟨b, r1, p F1 H1 (Same.refl _) R1⟩
  | _ => exact p.elim
theorem dt_cmp {op : CmpOp} {r : R2} {f : D → D → Option D} {a b : Expr} {ma mb : M D} (ho : OpR X (compareOp op) r) (hf : Op2 X adr r f) (ha : DE X adr Wx a ma) (hb : DE X adr Wx b mb) (hm : behindInMarks op b = false) : DT X adr Wx (.Compare a [op] [b] pos) (bE (e2 f ma mb)) := by
  obtain ⟨ta, pa, qa⟩ := ha
  obtain ⟨tb, pb, qb⟩ := hb
  exact ⟨_, pt_cmpR ho pa pb hm, tTest_ok (tOp_ok hf qa qb)⟩
/-- any expression that gives a truth value, as a test -/
theorem dt_val {e : Expr} {m : M D} (h : DE X adr Wx e m) (he : ∀ whole, isTrue e X.env whole = (do let v ← whole; standAt e.pos; holding [v] (truthy v)) := by intro _; rfl) : DT X adr Wx e (bE m) := by
  obtain ⟨t, pt, q⟩ := h
  exact ⟨_, pt_val pt he, tTest_ok q⟩
/-! ### chains of two -/
def eCh (f g : D → D → Option D) (ma mb mc : M D) : M D := fun ρ => (ma ρ).bind fun x ρ1 => (mb ρ1).bind fun y ρ2 => match f x y with
  | some (.bl true) => (mc ρ2).bind fun z ρ3 => opt (g y z) ρ3
  | some (.bl false) => .ok (.bl false) ρ2
  | _ => .bad
theorem tChain_ok {ma mb mc : M D} {ta tb tc : TE} {r r' : R2} {f g : D → D → Option D} (hf : Op2 X adr r f) (hg : Op2 X adr r' g)
    (qa : ∀ W σ ρ F H Q, In X adr W → ERel W σ ρ F H → PoD W σ F Wx Q (ma ρ) → ta σ H Q) (qb : ∀ W σ ρ F H Q, In X adr W → ERel W σ ρ F H → PoD W σ F Wx Q (mb ρ) → tb σ H Q)
    (qc : ∀ W σ ρ F H Q, In X adr W → ERel W σ ρ F H → PoD W σ F Wx Q (mc ρ) → tc σ H Q) :
    ∀ W σ ρ F H Q, In X adr W → ERel W σ ρ F H → PoD W σ F Wx Q (eCh f g ma mb mc ρ) → tChain r r' ta tb tc σ H Q := fun W σ ρ F H Q i R p => by
  refine qa W σ ρ F H _ i R (p.bind.imp fun x ρ1 F1 H1 s1 p u R1 r1 => qb W σ ρ1 F1 H1 _ i R1 (p.bind.imp fun y ρ2 F2 H2 s2 p v R2 r2 => ?_))
  cases ed : f x y with
  | none => simp only [ed] at p; exact p.elim
  | some d =>
    simp only [ed] at p
    refine hf W σ ρ2 F2 H2 _ x y u v d i R2 (Rep.mono s2 _ _ r1) r2 ed fun z F3 H3 s3 R3 r3 => ?_
    cases d with
    | bl b =>
      refine ⟨b, r3, ?_⟩
      cases b with
      | false =>
        rw [if_neg (by decide)]
        exact p F3 H3 s3 _ R3 rfl
      | true =>
        rw [if_pos rfl]
        refine qc W σ ρ2 F3 H3 _ i R3 ((p.sub s3).bind.imp fun z ρ4 F4 H4 s4 p w R4 r4 => ?_)
        obtain ⟨d, e, p⟩ := opt_some p
        exact hg W σ ρ4 F4 H4 Q y z v w d i R4 (Rep.mono (s3.trans s4) _ _ r2) r4 e fun z F5 H5 s5 R5 r5 => p F5 H5 s5 z R5 r5
    | _ => exact p.elim
end
end DL

set_option maxHeartbeats 4000000
/-! DL3: what the operators do with data. -/
namespace DL
open PySem L2 PyProof.Rows

/-! ### whole numbers -/
abbrev LINE : Nat := 16777216
theorem line_eq : LINE = sizeLine := by rw [sizeLine_eq]
/-- room for a product, a divisor -/
def bitsOk (i j : Int) : Prop := i.natAbs.log2 + j.natAbs.log2 < 100000000
instance (i j : Int) : Decidable (bitsOk i j) := by unfold bitsOk; infer_instance
def divOk (j : Int) : Prop := j ≠ 0 ∧ j.natAbs.log2 < 9000
instance (j : Int) : Decidable (divOk j) := by unfold divOk; infer_instance
def powOk (i j : Int) : Prop := 0 ≤ j ∧ (i.natAbs.log2 + 1) * j.natAbs ≤ 100000000
instance (i j : Int) : Decidable (powOk i j) := by unfold powOk; infer_instance
theorem intBits_le (x : Int) : Builtin.Int.intBits x ≤ x.natAbs.log2 + 1 := by
  unfold Builtin.Int.intBits
  split <;> omega
theorem bitsOk.ok {i j : Int} (h : bitsOk i j) : IntMulOk i j := by
  have h1 := intBits_le i
  have h2 := intBits_le j
  have h3 : i.natAbs.log2 + j.natAbs.log2 < 100000000 := h
  have e : bitsLine = 134217728 := by decide
  unfold IntMulOk
  intro z
  rw [Bool.and_eq_true] at z
  have z2 := z.2
  unfold Builtin.Int.intTooBig at z2
  have z3 := of_decide_eq_true z2
  rw [e] at z3
  omega
def fAdd : D → D → Option D
  | .int i, .int j => some (.int (i + j))
  | .str x, .str y => if x.length + y.length ≤ LINE then some (.str (x ++ y)) else none
  | .lst a, .lst b => if a.length + b.length ≤ LINE then some (.lst (a ++ b)) else none
  | .tup a, .tup b => if a.length + b.length ≤ LINE ∧ a ≠ [] then some (.tup (a ++ b)) else none
  | _, _ => none
def fSub : D → D → Option D
  | .int i, .int j => some (.int (i - j))
  | _, _ => none
def fMul : D → D → Option D
  | .int i, .int j => if bitsOk i j then some (.int (i * j)) else none
  | .lst a, .int k => if -(2 ^ 63) ≤ k ∧ k < 2 ^ 63 ∧ a.length * k.toNat ≤ LINE then some (.lst (List.replicate k.toNat a).flatten) else none
  | _, _ => none
def fDiv : D → D → Option D
  | .int i, .int j => if divOk j then some (.int (i.fdiv j)) else none
  | _, _ => none
def fMod : D → D → Option D
  | .int i, .int j => if j ≠ 0 then some (.int (i.fmod j)) else none
  | _, _ => none
def fPow : D → D → Option D
  | .int i, .int j => if powOk i j then some (.int (i ^ j.toNat)) else none
  | _, _ => none
def fNeg : D → Option D
  | .int i => some (.int (-i))
  | _ => none
def fNot : D → Option D
  | .bl b => some (.bl (!b))
  | _ => none
def fLt : D → D → Option D
  | .int i, .int j => some (.bl (decide (i < j)))
  | _, _ => none
def fLe : D → D → Option D
  | .int i, .int j => some (.bl (decide (i ≤ j)))
  | _, _ => none
def fGt : D → D → Option D
  | .int i, .int j => some (.bl (decide (j < i)))
  | _, _ => none
def fGe : D → D → Option D
  | .int i, .int j => some (.bl (decide (j ≤ i)))
  | _, _ => none
mutual
def D.py : D → PyData
  | .non => .none
  | .bl b => .bool b
  | .int i => .int i
  | .str x => .str x
  | .tup l => .tuple (pyAll l)
  | .lst l => .list (pyAll l)
  | .obj _ _ => .dict []
  | .scr _ => .dict []
  | .exn _ _ => .dict []
def pyAll : List D → List PyData
  | [] => []
  | d :: l => d.py :: pyAll l
end
def fEq (a b : D) : Option D := if SeqAt.shaped a.py = true ∧ SeqAt.shaped b.py = true then some (.bl (PyData.eqv a.py b.py)) else none
def fNe (a b : D) : Option D := if SeqAt.shaped a.py = true ∧ SeqAt.shaped b.py = true then some (.bl (!PyData.eqv a.py b.py)) else none
def fIn : D → D → Option D
  | x, .lst l => if SeqAt.shaped x.py = true ∧ SeqAt.shaped (.list (pyAll l)) = true then some (.bl (l.any fun z => PyData.eqv z.py x.py)) else none
  | x, .tup l => if SeqAt.shaped x.py = true ∧ SeqAt.shaped (.list (pyAll l)) = true then some (.bl (l.any fun z => PyData.eqv z.py x.py)) else none
  | .str ⟨⟨[c]⟩⟩, .str z => some (.bl (decide (c ∈ z.cps.toList)))
  | _, _ => none
def fNotIn : D → D → Option D
  | x, .lst l => if SeqAt.shaped x.py = true ∧ SeqAt.shaped (.list (pyAll l)) = true then some (.bl (!l.any fun z => PyData.eqv z.py x.py)) else none
  | x, .tup l => if SeqAt.shaped x.py = true ∧ SeqAt.shaped (.list (pyAll l)) = true then some (.bl (!l.any fun z => PyData.eqv z.py x.py)) else none
  | .str ⟨⟨[c]⟩⟩, .str z => some (.bl (!decide (c ∈ z.cps.toList)))
  | _, _ => none
def isN : D → Bool
  | .non => true
  | _ => false
def fIs : D → D → Option D
  | x, .non => some (.bl (isN x))
  | _, _ => none
def fIsNot : D → D → Option D
  | x, .non => some (.bl (!isN x))
  | _, _ => none

/-! ### the rules -/
section
variable {X : Cx} {adr : AdrT} {W : Wd}

theorem Dp_lst {K : PySem.W.Frag} {H : Hp} {a : Addr} {xs : List V} {ds : List PyData} (h : H a = some (.lst xs)) (r : DpAll K H xs ds) : Dp K H (.ref a) (.list ds) := .lst (.inl (.inl h)) r
mutual
theorem Rep.dp {F H : Hp} (s : Same F H) : ∀ (d : D) (v : V), Rep X.K adr F d v → PyData.canLay0 d.py = true → Dp X.K H v d.py
  | .non, _, r, _ => by rw [show _ = V.non from r]; exact .non
  | .bl b, _, r, _ => by rw [show _ = V.bl b from r]; exact .bl b
  | .int i, _, r, _ => by rw [show _ = V.int i from r]; exact .int i
  | .str x, _, r, _ => by rw [show _ = V.str x from r]; exact .str x
  | .tup l, _, ⟨a, vs, e, h, r⟩, c => by
    rw [e]
    exact .tup (seqT_same s h) (Reps.dp s l vs r (by simpa [D.py, PyData.canLay0] using c))
  | .lst l, _, ⟨a, vs, e, h, r⟩, c => by
    rw [e]
    exact Dp_lst (s _ _ h) (Reps.dp s l vs r (by simpa [D.py, PyData.canLay0] using c))
  | .obj _ _, _, _, c => by simp [D.py, PyData.canLay0] at c
  | .scr _, _, _, c => by simp [D.py, PyData.canLay0] at c
  | .exn _ _, _, _, c => by simp [D.py, PyData.canLay0] at c
theorem Reps.dp {F H : Hp} (s : Same F H) : ∀ (l : List D) (vs : List V), Reps X.K adr F l vs → PyData.canLayAll0 (pyAll l) = true → DpAll X.K H vs (pyAll l)
  | [], _, r, _ => by rw [show _ = [] from r]; exact .nil
  | d :: l, _, ⟨v, r, e, h1, h2⟩, c => by
    rw [e]
    have c' : PyData.canLay0 d.py = true ∧ PyData.canLayAll0 (pyAll l) = true := by simpa [pyAll, PyData.canLayAll0] using c
    exact .cons (Rep.dp s d v h1 c'.1) (Reps.dp s l r h2 c'.2)
end
theorem op2_eq : Op2 X adr (rEqD X.K) fEq := fun W σ ρ F H Q x y u v d i R rx ry e q => by
  unfold fEq at e
  by_cases c : SeqAt.shaped x.py = true ∧ SeqAt.shaped y.py = true
  · rw [if_pos c] at e
    cases e
    rw [i.k, i.a] at rx ry
    exact ⟨_, _, Rep.dp R.sub x u rx (SeqAt.canLay_of_shaped c.1), Rep.dp R.sub y v ry (SeqAt.canLay_of_shaped c.2), c.1, c.2, q _ F H (Same.refl _) R rfl⟩
  · rw [if_neg c] at e; cases e
theorem op2_ne : Op2 X adr (rNeD X.K) fNe := fun W σ ρ F H Q x y u v d i R rx ry e q => by
  unfold fNe at e
  by_cases c : SeqAt.shaped x.py = true ∧ SeqAt.shaped y.py = true
  · rw [if_pos c] at e
    cases e
    rw [i.k, i.a] at rx ry
    exact ⟨_, _, Rep.dp R.sub x u rx (SeqAt.canLay_of_shaped c.1), Rep.dp R.sub y v ry (SeqAt.canLay_of_shaped c.2), c.1, c.2, q _ F H (Same.refl _) R rfl⟩
  · rw [if_neg c] at e; cases e
/-- ints, by a rule on ints -/
theorem op2_I {g : Int → Int → V} {C : Int → Int → Prop} {f : D → D → Option D} (hf : ∀ x y d, f x y = some d → ∃ i j, x = .int i ∧ y = .int j ∧ C i j ∧ ((∃ k, d = .int k ∧ g i j = .int k) ∨ (∃ b, d = .bl b ∧ g i j = .bl b))) : Op2 X adr (rI C g) f :=
  fun W σ ρ F H Q x y u v d i R rx ry e q => by
    obtain ⟨a, b, rfl, rfl, hc, h⟩ := hf x y d e
    refine ⟨a, b, rx, ry, hc, ?_⟩
    rcases h with ⟨k, rfl, e2⟩ | ⟨k, rfl, e2⟩
    · rw [e2]; exact q _ F H (Same.refl _) R rfl
    · rw [e2]; exact q _ F H (Same.refl _) R rfl
theorem op2_I0 {g : Int → Int → V} {f : D → D → Option D} (hf : ∀ x y d, f x y = some d → ∃ i j, x = .int i ∧ y = .int j ∧ ((∃ k, d = .int k ∧ g i j = .int k) ∨ (∃ b, d = .bl b ∧ g i j = .bl b))) : Op2 X adr (rI0 g) f :=
  fun W σ ρ F H Q x y u v d i R rx ry e q => by
    obtain ⟨a, b, rfl, rfl, h⟩ := hf x y d e
    refine ⟨a, b, rx, ry, ?_⟩
    rcases h with ⟨k, rfl, e2⟩ | ⟨k, rfl, e2⟩
    · rw [e2]; exact q _ F H (Same.refl _) R rfl
    · rw [e2]; exact q _ F H (Same.refl _) R rfl
theorem op2_sub : Op2 X adr (rI0 fun i j => .int (i - j)) fSub := op2_I0 fun x y d e => by
  cases x <;> cases y <;> simp only [fSub, reduceCtorEq] at e
  cases e
  exact ⟨_, _, rfl, rfl, .inl ⟨_, rfl, rfl⟩⟩
theorem op2_lt : Op2 X adr (rI0 fun i j => .bl (decide (i < j))) fLt := op2_I0 fun x y d e => by
  cases x <;> cases y <;> simp only [fLt, reduceCtorEq] at e
  cases e
  exact ⟨_, _, rfl, rfl, .inr ⟨_, rfl, rfl⟩⟩
theorem op2_le : Op2 X adr (rI0 fun i j => .bl (decide (i ≤ j))) fLe := op2_I0 fun x y d e => by
  cases x <;> cases y <;> simp only [fLe, reduceCtorEq] at e
  cases e
  exact ⟨_, _, rfl, rfl, .inr ⟨_, rfl, rfl⟩⟩
theorem op2_gt : Op2 X adr (rI0 fun i j => .bl (decide (j < i))) fGt := op2_I0 fun x y d e => by
  cases x <;> cases y <;> simp only [fGt, reduceCtorEq] at e
  cases e
  exact ⟨_, _, rfl, rfl, .inr ⟨_, rfl, rfl⟩⟩
theorem op2_ge : Op2 X adr (rI0 fun i j => .bl (decide (j ≤ i))) fGe := op2_I0 fun x y d e => by
  cases x <;> cases y <;> simp only [fGe, reduceCtorEq] at e
  cases e
  exact ⟨_, _, rfl, rfl, .inr ⟨_, rfl, rfl⟩⟩
theorem op_divX : OpR X (binaryOp .FloorDiv) (rI (fun _ j => divOk j) fun i j => .int (i.fdiv j)) := opI fun _ _ _ _ _ _ _ hc q => floordiv_int hc.1 q (.inl (PyProof.noPylong_of_log2 hc.2))
theorem op2_div : Op2 X adr (rI (fun _ j => divOk j) fun i j => .int (i.fdiv j)) fDiv := op2_I fun x y d e => by
  cases x <;> cases y <;> simp only [fDiv, reduceCtorEq] at e
  split at e
  · cases e; exact ⟨_, _, rfl, rfl, by assumption, .inl ⟨_, rfl, rfl⟩⟩
  · cases e
theorem op2_mod : Op2 X adr (rI (fun _ j => j ≠ 0) fun i j => .int (i.fmod j)) fMod := op2_I fun x y d e => by
  cases x <;> cases y <;> simp only [fMod, reduceCtorEq] at e
  split at e
  · cases e; exact ⟨_, _, rfl, rfl, by assumption, .inl ⟨_, rfl, rfl⟩⟩
  · cases e
theorem op_powX : OpR X (binaryOp .Pow) (rI powOk fun i j => .int (i ^ j.toNat)) := opI fun i j _ _ _ _ _ hc q => by
  refine pow_int hc.1 ?_ q
  have h1 := intBits_le i
  have h2 := hc.2
  have e : ((j.natAbs : Nat) : Int) = j := Int.natAbs_of_nonneg hc.1
  have h3 : Builtin.Int.intBits i * j.natAbs ≤ (i.natAbs.log2 + 1) * j.natAbs := Nat.mul_le_mul_right _ h1
  have h4 : ((Builtin.Int.intBits i * j.natAbs : Nat) : Int) ≤ 2 ^ 27 := by omega
  rw [Int.natCast_mul, e] at h4
  exact h4
theorem op2_pow : Op2 X adr (rI powOk fun i j => .int (i ^ j.toNat)) fPow := op2_I fun x y d e => by
  cases x <;> cases y <;> simp only [fPow, reduceCtorEq] at e
  split at e
  · cases e; exact ⟨_, _, rfl, rfl, by assumption, .inl ⟨_, rfl, rfl⟩⟩
  · cases e
theorem op1_neg : Op1 X adr (rU fun i => .int (-i)) fNeg := fun W σ ρ F H Q x u d i R rx e q => by
  cases x <;> simp only [fNeg, reduceCtorEq] at e
  cases e
  exact ⟨_, rx, q _ F H (Same.refl _) R rfl⟩
theorem op_mulX : OpR X (binaryOp .Mult) (rI bitsOk fun i j => .int (i * j)) := opI fun _ _ _ _ _ _ _ hc q => mul_int q hc.ok
theorem Reps.flat {K : PySem.W.Frag} {F : Hp} {l : List D} {vs : List V} (r : Reps K adr F l vs) : ∀ n : Nat, Reps K adr F (List.replicate n l).flatten (List.replicate n vs).flatten
  | 0 => rfl
  | n + 1 => by rw [List.replicate_succ, List.replicate_succ, List.flatten_cons, List.flatten_cons]; exact r.append (Reps.flat r n)
abbrev rMulD : R2 := fun x y H Q => rI bitsOk (fun i j => .int (i * j)) x y H Q ∨ rRep x y H Q
theorem op_mulD : OpR X (binaryOp .Mult) rMulD := op_mulX.or op_rep
theorem op2_mul : Op2 X adr rMulD fMul := fun W σ ρ F H Q x y u v d i R rx ry e q => by
  cases x <;> cases y <;> simp only [fMul, reduceCtorEq] at e
  · split at e
    · cases e; exact .inl ⟨_, _, rx, ry, by assumption, q _ F H (Same.refl _) R rfl⟩
    · cases e
  · split at e
    · rename_i c
      cases e
      obtain ⟨a, vs, e1, e2, r⟩ := rx
      refine .inr ⟨a, _, vs, e1, ry, R.sub _ _ e2, c.1, c.2.1, ?_, fun p hp => ?_⟩
      · rw [← r.length, ← line_eq]; exact c.2.2
      · obtain ⟨R', s'⟩ := R.alloc (o := .lst _) hp
        exact q _ _ _ s' R' ⟨p, _, rfl, upd_same, Reps.mono s' _ _ (r.flat _)⟩
    · cases e
/-- + of ints, texts, lists, tuples -/
abbrev rAddS : R2 := fun x y H Q => ∃ i j, x = .str i ∧ y = .str j ∧ i.length + j.length ≤ sizeLine ∧ Q (.str (i ++ j)) H
abbrev rAddD (K : PySem.W.Frag) : R2 := fun x y H Q => (rI0 (fun i j => .int (i + j)) x y H Q ∨ rAddS x y H Q) ∨ (rCat x y H Q ∨ rCatT K x y H Q)
theorem op_addD : OpR X (binaryOp .Add) (rAddD X.K) := (op_add.or op_add_str).or (op_cat.or op_catT)
theorem op2_add : Op2 X adr (rAddD X.K) fAdd := fun W σ ρ F H Q x y u v d i R rx ry e q => by
  cases x <;> cases y <;> simp only [fAdd, reduceCtorEq] at e
  · cases e
    exact .inl (.inl ⟨_, _, rx, ry, q _ F H (Same.refl _) R rfl⟩)
  · split at e
    · rename_i c
      cases e
      exact .inl (.inr ⟨_, _, rx, ry, by rw [← line_eq]; exact c, q _ F H (Same.refl _) R rfl⟩)
    · cases e
  · split at e
    · rename_i c
      cases e
      obtain ⟨a, vs, e1, e2, r⟩ := rx
      obtain ⟨b, ws, f1, f2, r2⟩ := ry
      have z1 := r.length
      have z2 := r2.length
      refine .inr (.inr ⟨a, b, vs, ws, e1, f1, ?_, ?_, ?_, ?_, fun z => ?_, fun z p hp => ?_⟩)
      · rw [← i.k]; exact seqT_same R.sub e2
      · rw [← i.k]; exact seqT_same R.sub f2
      · intro z
        rw [z] at z1
        exact c.2 (List.eq_nil_of_length_eq_zero z1)
      · rw [← z1, ← z2, ← line_eq]; exact c.1
      · rw [z] at z2
        have e0 := List.eq_nil_of_length_eq_zero z2
        rw [e0, List.append_nil] at q
        exact q _ F H (Same.refl _) R ⟨a, vs, rfl, e2, r⟩
      · obtain ⟨R', s'⟩ := R.alloc (o := .tup (vs ++ ws)) hp
        exact q _ _ _ s' R' ⟨p, _, rfl, .inl (.inl upd_same), Reps.mono s' _ _ (r.append r2)⟩
    · cases e
  · split at e
    · rename_i c
      cases e
      obtain ⟨a, vs, e1, e2, r⟩ := rx
      obtain ⟨b, ws, f1, f2, r2⟩ := ry
      have z1 := r.length
      have z2 := r2.length
      refine .inr (.inl ⟨a, b, vs, ws, e1, f1, R.sub _ _ e2, R.sub _ _ f2, ?_, fun p hp => ?_⟩)
      · rw [← z1, ← z2, ← line_eq]; exact c
      · obtain ⟨R', s'⟩ := R.alloc (o := .lst (vs ++ ws)) hp
        exact q _ _ _ s' R' ⟨p, _, rfl, upd_same, Reps.mono s' _ _ (r.append r2)⟩
    · cases e
/-- is None -/
theorem op2_is : Op2 X adr (fun x y H Q => y = .non ∧ Q (.bl (decide (x = .non))) H) fIs := fun W σ ρ F H Q x y u v d i R rx ry e q => by
  cases y <;> simp only [fIs, reduceCtorEq] at e
  cases e
  refine ⟨ry, ?_⟩
  have : decide (u = V.non) = isN x := by
    cases x with
    | non => rw [show u = V.non from rx]; rfl
    | bl b => rw [show u = V.bl b from rx]; rfl
    | int b => rw [show u = V.int b from rx]; rfl
    | str b => rw [show u = V.str b from rx]; rfl
    | tup l => obtain ⟨a, vs, rfl, _⟩ := rx; rfl
    | lst l => obtain ⟨a, vs, rfl, _⟩ := rx; rfl
    | obj c l => obtain ⟨a, dx, vs, rfl, _⟩ := rx; rfl
    | scr l => obtain ⟨a, rfl, _⟩ := rx; rfl
    | exn c d => obtain ⟨a, _, _, _, _, rfl, _⟩ := rx; rfl
  rw [this]
  exact q _ F H (Same.refl _) R rfl
theorem op2_isNot : Op2 X adr (fun x y H Q => y = .non ∧ Q (.bl (!decide (x = .non))) H) fIsNot := fun W σ ρ F H Q x y u v d i R rx ry e q => by
  cases y <;> simp only [fIsNot, reduceCtorEq] at e
  cases e
  refine (op2_is (X := X) (adr := adr)) W σ ρ F H (fun v H => ∃ b, v = .bl b ∧ Q (.bl (!b)) H) x .non u v (.bl (isN x)) i R rx ry rfl (fun z F' H' s R' r => ⟨_, r, q _ F' H' s R' rfl⟩) |>.imp id fun h => ?_
  obtain ⟨b, e1, h⟩ := h
  cases e1
  exact h
/-- in -/
abbrev rInX (K : PySem.W.Frag) (neg : Bool) : R2 := fun x y H Q => ∃ d ds, Dp K H x d ∧ (Dp K H y (.list ds) ∨ Dp K H y (.tuple ds)) ∧ SeqAt.shaped d = true ∧ SeqAt.shaped (.list ds) = true ∧ Q (.bl (if neg then !ds.any fun z => PyData.eqv z d else ds.any fun z => PyData.eqv z d)) H
theorem op_inX (hu : X.A.units + 65 < cLine) : OpR X (compareOp .In) (rInX X.K false) := by
  intro pins s σ H x y v u Q I rx ry h
  obtain ⟨d, ds, hd, he, sd, se, q⟩ := h
  obtain ⟨as, r1⟩ := Dp.reads I d x v hd rx
  rcases he with he | he
  · obtain ⟨bs, r2⟩ := Dp.reads I (.list ds) y u he ry
    exact SeqAt.in_list_reads r2 r1 (SeqAt.canLay_of_shaped se) (SeqAt.canLay_of_shaped sd) (room_in_shaped sd hu) ⟨.bl _, H, I, rfl, q⟩
  · obtain ⟨bs, r2⟩ := Dp.reads I (.tuple ds) y u he ry
    exact SeqAt.in_tuple_reads r2 r1 (SeqAt.canLay_of_shaped se) (SeqAt.canLay_of_shaped sd) (room_in_shaped sd hu) ⟨.bl _, H, I, rfl, q⟩
theorem op_notInX (hu : X.A.units + 65 < cLine) : OpR X (compareOp .NotIn) (rInX X.K true) := by
  intro pins s σ H x y v u Q I rx ry h
  obtain ⟨d, ds, hd, he, sd, se, q⟩ := h
  obtain ⟨as, r1⟩ := Dp.reads I d x v hd rx
  rcases he with he | he
  · obtain ⟨bs, r2⟩ := Dp.reads I (.list ds) y u he ry
    exact SeqAt.notIn_list_reads r2 r1 (SeqAt.canLay_of_shaped se) (SeqAt.canLay_of_shaped sd) (room_in_shaped sd hu) ⟨.bl _, H, I, rfl, q⟩
  · obtain ⟨bs, r2⟩ := Dp.reads I (.tuple ds) y u he ry
    exact SeqAt.notIn_tuple_reads r2 r1 (SeqAt.canLay_of_shaped se) (SeqAt.canLay_of_shaped sd) (room_in_shaped sd hu) ⟨.bl _, H, I, rfl, q⟩
theorem any_py (x : PyData) : ∀ l : List D, (pyAll l).any (fun z => PyData.eqv z x) = l.any fun z => PyData.eqv z.py x
  | [] => rfl
  | d :: l => by rw [pyAll, List.any_cons, List.any_cons, any_py x l]
abbrev rInS : R2 := fun x y H Q => ∃ (c : Nat) (z : Str), x = .str ⟨#[c]⟩ ∧ y = .str z ∧ Q (.bl (decide (c ∈ z.cps.toList))) H
abbrev rNotInS : R2 := fun x y H Q => ∃ (c : Nat) (z : Str), x = .str ⟨#[c]⟩ ∧ y = .str z ∧ Q (.bl (!decide (c ∈ z.cps.toList))) H
theorem op_inD' (hu : X.A.units + 65 < cLine) : OpR X (compareOp .In) (fun x y H Q => rInX X.K false x y H Q ∨ rInS x y H Q) := (op_inX hu).or op_in_sign
theorem op_notInD' (hu : X.A.units + 65 < cLine) : OpR X (compareOp .NotIn) (fun x y H Q => rInX X.K true x y H Q ∨ rNotInS x y H Q) := (op_notInX hu).or op_notIn_sign
theorem canLay_list {l : List D} (h : SeqAt.shaped (.list (pyAll l)) = true) : PyData.canLayAll0 (pyAll l) = true := by
  have := SeqAt.canLay_of_shaped h
  simpa [PyData.canLay0] using this
theorem op2_in : Op2 X adr (fun x y H Q => rInX X.K false x y H Q ∨ rInS x y H Q) fIn := fun W σ ρ F H Q x y u v d i R rx ry e q => by
  have seq : ∀ l, (y = .lst l ∨ y = .tup l) → fIn x y = (if SeqAt.shaped x.py = true ∧ SeqAt.shaped (.list (pyAll l)) = true then some (.bl (l.any fun z => PyData.eqv z.py x.py)) else none) → (rInX X.K false u v H Q ∨ rInS u v H Q) := fun l hy hl => by
    rw [hl] at e
    by_cases c : SeqAt.shaped x.py = true ∧ SeqAt.shaped (.list (pyAll l)) = true
    · rw [if_pos c] at e
      cases e
      refine .inl ⟨x.py, pyAll l, Rep.dp R.sub x u (by rw [← i.k]; exact rx) (SeqAt.canLay_of_shaped c.1), ?_, c.1, c.2, ?_⟩
      · rcases hy with hy | hy
        · subst hy
          obtain ⟨a, vs, rfl, h1, h2⟩ := ry
          exact .inl (Dp_lst (R.sub _ _ h1) (Reps.dp (adr := W.adr) R.sub l vs (by rw [← i.k]; exact h2) (canLay_list c.2)))
        · subst hy
          obtain ⟨a, vs, rfl, h1, h2⟩ := ry
          exact .inr (.tup (by rw [← i.k]; exact seqT_same R.sub h1) (Reps.dp (adr := W.adr) R.sub l vs (by rw [← i.k]; exact h2) (canLay_list c.2)))
      · rw [if_neg (by decide), any_py]
        exact q _ F H (Same.refl _) R rfl
    · rw [if_neg c] at e; cases e
  cases y with
  | lst l => exact seq l (.inl rfl) (by cases x <;> rfl)
  | tup l => exact seq l (.inr rfl) (by cases x <;> rfl)
  | str z =>
    cases x with
    | str s =>
      obtain ⟨⟨s⟩⟩ := s
      match s, e with
      | [c], e =>
        cases e
        exact .inr ⟨c, z, rx, ry, q _ F H (Same.refl _) R rfl⟩
      | [], e => simp [fIn] at e
      | _ :: _ :: _, e => simp [fIn] at e
    | _ => simp [fIn] at e
  | _ => cases x <;> simp [fIn] at e
theorem op2_notIn : Op2 X adr (fun x y H Q => rInX X.K true x y H Q ∨ rNotInS x y H Q) fNotIn := fun W σ ρ F H Q x y u v d i R rx ry e q => by
  have seq : ∀ l, (y = .lst l ∨ y = .tup l) → fNotIn x y = (if SeqAt.shaped x.py = true ∧ SeqAt.shaped (.list (pyAll l)) = true then some (.bl (!l.any fun z => PyData.eqv z.py x.py)) else none) → (rInX X.K true u v H Q ∨ rNotInS u v H Q) := fun l hy hl => by
    rw [hl] at e
    by_cases c : SeqAt.shaped x.py = true ∧ SeqAt.shaped (.list (pyAll l)) = true
    · rw [if_pos c] at e
      cases e
      refine .inl ⟨x.py, pyAll l, Rep.dp R.sub x u (by rw [← i.k]; exact rx) (SeqAt.canLay_of_shaped c.1), ?_, c.1, c.2, ?_⟩
      · rcases hy with hy | hy
        · subst hy
          obtain ⟨a, vs, rfl, h1, h2⟩ := ry
          exact .inl (Dp_lst (R.sub _ _ h1) (Reps.dp (adr := W.adr) R.sub l vs (by rw [← i.k]; exact h2) (canLay_list c.2)))
        · subst hy
          obtain ⟨a, vs, rfl, h1, h2⟩ := ry
          exact .inr (.tup (by rw [← i.k]; exact seqT_same R.sub h1) (Reps.dp (adr := W.adr) R.sub l vs (by rw [← i.k]; exact h2) (canLay_list c.2)))
      · rw [if_pos rfl, any_py]
        exact q _ F H (Same.refl _) R rfl
    · rw [if_neg c] at e; cases e
  cases y with
  | lst l => exact seq l (.inl rfl) (by cases x <;> rfl)
  | tup l => exact seq l (.inr rfl) (by cases x <;> rfl)
  | str z =>
    cases x with
    | str s =>
      obtain ⟨⟨s⟩⟩ := s
      match s, e with
      | [c], e =>
        cases e
        exact .inr ⟨c, z, rx, ry, q _ F H (Same.refl _) R rfl⟩
      | [], e => simp [fNotIn] at e
      | _ :: _ :: _, e => simp [fNotIn] at e
    | _ => simp [fNotIn] at e
  | _ => cases x <;> simp [fNotIn] at e
end
end DL

set_option maxHeartbeats 4000000
/-! DL4: and, or, not, if-else; subscripts, slices; displays; calls of built-ins. -/
namespace DL
open PySem L2 PyProof.Rows
section
variable {X : Cx} {adr : AdrT} {Wx : WX} {pos : Pos}

theorem de_chain {op op' : CmpOp} {r r' : R2} {f g : D → D → Option D} {a b c : Expr} {ma mb mc : M D} (ho : OpR X (compareOp op) r) (hf : Op2 X adr r f) (ho' : OpR X (compareOp op') r') (hg : Op2 X adr r' g)
    (ha : DE X adr Wx a ma) (hb : DE X adr Wx b mb) (hc : DE X adr Wx c mc) (hm : lastMarks [op, op'] [b, c] = false := by with_unfolding_all rfl) : DE X adr Wx (.Compare a [op, op'] [b, c] pos) (eCh f g ma mb mc) := by
  obtain ⟨ta, pa, qa⟩ := ha
  obtain ⟨tb, pb, qb⟩ := hb
  obtain ⟨tc, pc, qc⟩ := hc
  exact ⟨_, pe_chain ho ho' pa pb pc hm, tChain_ok hf hg qa qb qc⟩
theorem dt_chain {op op' : CmpOp} {r r' : R2} {f g : D → D → Option D} {a b c : Expr} {ma mb mc : M D} (ho : OpR X (compareOp op) r) (hf : Op2 X adr r f) (ho' : OpR X (compareOp op') r') (hg : Op2 X adr r' g)
    (ha : DE X adr Wx a ma) (hb : DE X adr Wx b mb) (hc : DE X adr Wx c mc) (hm : lastMarks [op, op'] [b, c] = false := by with_unfolding_all rfl) : DT X adr Wx (.Compare a [op, op'] [b, c] pos) (bE (eCh f g ma mb mc)) := by
  obtain ⟨ta, pa, qa⟩ := ha
  obtain ⟨tb, pb, qb⟩ := hb
  obtain ⟨tc, pc, qc⟩ := hc
  exact ⟨_, pt_chain ho ho' pa pb pc hm, tTest_ok (tChain_ok hf hg qa qb qc)⟩
/-! ### and, or, not, if -/
def eAnd (ma mb : M D) : M D := fun ρ => (ma ρ).bind fun x ρ1 => match x with | .bl true => mb ρ1 | .bl false => .ok (.bl false) ρ1 | _ => .bad
def eOr (ma mb : M D) : M D := fun ρ => (ma ρ).bind fun x ρ1 => match x with | .bl false => mb ρ1 | .bl true => .ok (.bl true) ρ1 | _ => .bad
def bAnd (ma mb : M Bool) : M Bool := fun ρ => (ma ρ).bind fun x ρ1 => if x = true then mb ρ1 else .ok false ρ1
def bOr (ma mb : M Bool) : M Bool := fun ρ => (ma ρ).bind fun x ρ1 => if x = true then .ok true ρ1 else mb ρ1
def bNot (ma : M Bool) : M Bool := fun ρ => (ma ρ).bind fun x ρ1 => .ok (!x) ρ1
def eIf (mc : M Bool) (ma mb : M D) : M D := fun ρ => (mc ρ).bind fun x ρ1 => if x = true then ma ρ1 else mb ρ1
theorem de_one {op : BoolOp} {a : Expr} {m : M D} (h : DE X adr Wx a m) : DE X adr Wx (.BoolOp op [a] pos) m := by
  obtain ⟨t, p, q⟩ := h
  exact ⟨t, pe_one p, q⟩
theorem de_and {a b : Expr} {rest : List Expr} {ma mb : M D} (ha : DE X adr Wx a ma) (hb : DE X adr Wx (.BoolOp .And (b :: rest) pos) mb) : DE X adr Wx (.BoolOp .And (a :: b :: rest) pos) (eAnd ma mb) := by
  obtain ⟨ta, pa, qa⟩ := ha
  obtain ⟨tb, pb, qb⟩ := hb
  refine ⟨_, pe_and pa pb, fun W σ ρ F H Q i R p => qa W σ ρ F H _ i R (p.bind.imp fun x ρ1 F1 H1 s1 p u R1 r1 => ?_)⟩
  cases x with
  | bl c =>
    refine ⟨c, r1, ?_⟩
    cases c with
    | true => rw [if_pos rfl]; exact qb W σ ρ1 F1 H1 Q i R1 p
    | false => rw [if_neg (by decide)]; exact p F1 H1 (Same.refl _) _ R1 rfl
  | _ => exact p.elim
theorem de_or {a b : Expr} {rest : List Expr} {ma mb : M D} (ha : DE X adr Wx a ma) (hb : DE X adr Wx (.BoolOp .Or (b :: rest) pos) mb) : DE X adr Wx (.BoolOp .Or (a :: b :: rest) pos) (eOr ma mb) := by
  obtain ⟨ta, pa, qa⟩ := ha
  obtain ⟨tb, pb, qb⟩ := hb
  refine ⟨_, pe_or pa pb, fun W σ ρ F H Q i R p => qa W σ ρ F H _ i R (p.bind.imp fun x ρ1 F1 H1 s1 p u R1 r1 => ?_)⟩
  cases x with
  | bl c =>
    refine ⟨c, r1, ?_⟩
    cases c with
    | false => rw [if_neg (by decide)]; exact qb W σ ρ1 F1 H1 Q i R1 p
    | true => rw [if_pos rfl]; exact p F1 H1 (Same.refl _) _ R1 rfl
  | _ => exact p.elim
theorem de_not {a : Expr} {ma : M D} (ha : DE X adr Wx a ma) : DE X adr Wx (.UnaryOp .Not a pos) (e1 fNot ma) := by
  obtain ⟨ta, pa, qa⟩ := ha
  refine ⟨_, pe_not pa, fun W σ ρ F H Q i R p => qa W σ ρ F H _ i R (p.bind.imp fun x ρ1 F1 H1 s1 p u R1 r1 => ?_)⟩
  obtain ⟨d, e, p⟩ := opt_some p
  cases x <;> simp only [fNot, reduceCtorEq] at e
  cases e
  exact ⟨_, r1, p F1 H1 (Same.refl _) _ R1 rfl⟩
theorem dt_not {a : Expr} {ma : M Bool} (ha : DT X adr Wx a ma) : DT X adr Wx (.UnaryOp .Not a pos) (bNot ma) := by
  obtain ⟨ta, pa, qa⟩ := ha
  exact ⟨_, pt_not pa, fun W σ ρ F H Q i R p => qa W σ ρ F H _ i R (p.bind.imp fun x ρ1 F1 H1 s1 p R1 => p F1 H1 (Same.refl _) R1)⟩
theorem dw_pt {e : Expr} {m : M Bool} (h : DW X adr Wx e m) : DT X adr Wx e m := by
  obtain ⟨t, p, q⟩ := h
  exact ⟨t, p.pt, q⟩
theorem dw_and1 {a : Expr} {m : M Bool} (h : DT X adr Wx a m) : DW X adr Wx (.BoolOp .And [a] pos) m := by
  obtain ⟨t, p, q⟩ := h
  exact ⟨t, pw_and1 p, q⟩
theorem dw_or1 {a : Expr} {m : M Bool} (h : DT X adr Wx a m) : DW X adr Wx (.BoolOp .Or [a] pos) m := by
  obtain ⟨t, p, q⟩ := h
  exact ⟨t, pw_or1 p, q⟩
theorem dw_and {a b : Expr} {rest : List Expr} {ma mb : M Bool} (ha : DT X adr Wx a ma) (hb : DW X adr Wx (.BoolOp .And (b :: rest) pos) mb) : DW X adr Wx (.BoolOp .And (a :: b :: rest) pos) (bAnd ma mb) := by
  obtain ⟨ta, pa, qa⟩ := ha
  obtain ⟨tb, pb, qb⟩ := hb
  refine ⟨_, pw_and pa pb, fun W σ ρ F H Q i R p => qa W σ ρ F H _ i R (p.bind.imp fun c ρ1 F1 H1 s1 p R1 => ?_)⟩
  cases c with
  | true => rw [if_pos rfl]; exact qb W σ ρ1 F1 H1 Q i R1 p
  | false => rw [if_neg (by decide)]; exact p F1 H1 (Same.refl _) R1
theorem dw_or {a b : Expr} {rest : List Expr} {ma mb : M Bool} (ha : DT X adr Wx a ma) (hb : DW X adr Wx (.BoolOp .Or (b :: rest) pos) mb) : DW X adr Wx (.BoolOp .Or (a :: b :: rest) pos) (bOr ma mb) := by
  obtain ⟨ta, pa, qa⟩ := ha
  obtain ⟨tb, pb, qb⟩ := hb
  refine ⟨_, pw_or pa pb, fun W σ ρ F H Q i R p => qa W σ ρ F H _ i R (p.bind.imp fun c ρ1 F1 H1 s1 p R1 => ?_)⟩
  cases c with
  | false => rw [if_neg (by decide)]; exact qb W σ ρ1 F1 H1 Q i R1 p
  | true => rw [if_pos rfl]; exact p F1 H1 (Same.refl _) R1
theorem de_if {a b c : Expr} {ma mb : M D} {mc : M Bool} (hc : DT X adr Wx c mc) (ha : DE X adr Wx a ma) (hb : DE X adr Wx b mb) : DE X adr Wx (.IfExp c a b pos) (eIf mc ma mb) := by
  obtain ⟨tc, pc, qc⟩ := hc
  obtain ⟨ta, pa, qa⟩ := ha
  obtain ⟨tb, pb, qb⟩ := hb
  refine ⟨_, pe_ifExp pc pa pb, fun W σ ρ F H Q i R p => qc W σ ρ F H _ i R (p.bind.imp fun c ρ1 F1 H1 s1 p R1 => ?_)⟩
  cases c with
  | true => rw [if_pos rfl]; exact qa W σ ρ1 F1 H1 Q i R1 p
  | false => rw [if_neg (by decide)]; exact qb W σ ρ1 F1 H1 Q i R1 p
/-! ### subscripts -/
theorem Reps.atI {K : PySem.W.Frag} {F : Hp} {l : List D} {vs : List V} {i : Int} {d : D} (r : Reps K adr F l vs) (h : L2.atI l i = some d) : ∃ v, L2.atI vs i = some v ∧ Rep K adr F d v := by
  unfold L2.atI at h ⊢
  rw [← r.length]
  cases e : ixN l.length i with
  | none => rw [e] at h; cases h
  | some j =>
    rw [e] at h
    exact r.get h
def fIx : D → D → Option D
  | .lst l, .int i => L2.atI l i
  | .tup l, .int i => L2.atI l i
  | .str z, .int i => if z.length ≤ LINE then (L2.atI z.cps.toList i).map fun c => .str ⟨#[c]⟩ else none
  | .scr l, .int i => (L2.atI l i).map .int
  | _, _ => none
abbrev rIxD' (K : PySem.W.Frag) : R2 := fun x y H Q => (rIxL K x y H Q ∨ rIxT K x y H Q) ∨ rIxS x y H Q
theorem ix_D : IxR X (rIxD' X.K) := (ix_list.or ix_tup).or ix_str
theorem atI_map {α β : Type} (f : α → β) (l : List α) (i : Int) : L2.atI (l.map f) i = (L2.atI l i).map f := by
  unfold L2.atI
  rw [List.length_map]
  cases ixN l.length i with
  | none => rfl
  | some j => simp
theorem op2_ix : Op2 X adr (rIxD' X.K) fIx := fun W σ ρ F H Q x y u v d i R rx ry e q => by
  cases x <;> cases y <;> simp only [fIx, reduceCtorEq] at e
  · split at e
    · rename_i z c
      cases e2 : L2.atI (Str.cps ‹_›).toList ‹_› with
      | none => rw [e2] at e; cases e
      | some k =>
        rw [e2] at e
        cases e
        exact .inr ⟨_, _, k, rx, ry, by rw [← line_eq]; assumption, e2, q _ F H (Same.refl _) R rfl⟩
    · cases e
  · obtain ⟨a, vs, e1, e2, r⟩ := rx
    obtain ⟨w, e3, r3⟩ := r.atI e
    exact .inl (.inr ⟨a, vs, _, w, e1, ry, by rw [← i.k]; exact seqT_same R.sub e2, e3, q _ F H (Same.refl _) R r3⟩)
  · obtain ⟨a, vs, e1, e2, r⟩ := rx
    obtain ⟨w, e3, r3⟩ := r.atI e
    exact .inl (.inl ⟨a, vs, _, w, e1, ry, .inl (.inl (R.sub _ _ e2)), e3, q _ F H (Same.refl _) R r3⟩)
  · obtain ⟨a, e1, e2⟩ := rx
    cases e4 : L2.atI ‹List Int› ‹Int› with
    | none => rw [e4] at e; cases e
    | some k =>
      rw [e4] at e
      cases e
      refine .inl (.inl ⟨a, _, _, .int k, e1, ry, by rw [← i.k]; exact R.sub.seq e2, ?_, q _ F H (Same.refl _) R rfl⟩)
      rw [atI_map, e4]; rfl
theorem de_ix {a b : Expr} {ma mb : M D} (ha : DE X adr Wx a ma) (hb : DE X adr Wx b mb) (hs : PlainIx b := by exact fun _ _ => rfl) : DE X adr Wx (.Subscript a b pos) (e2 fIx ma mb) := by
  obtain ⟨ta, pa, qa⟩ := ha
  obtain ⟨tb, pb, qb⟩ := hb
  exact ⟨_, pe_ix ix_D pa pb hs, tOp_ok op2_ix qa qb⟩
/-! ### slices -/
def cutL {α : Type} (xs : List α) (lo hi : Option Int) : List α := (xs.drop (HT.sIx xs.length 0 lo)).take (HT.sIx xs.length xs.length hi - HT.sIx xs.length 0 lo)
def fSl : D → Option Int → Option Int → Option D
  | .lst l, lo, hi => some (.lst (cutL l lo hi))
  | .tup l, lo, hi => if HT.sIx l.length 0 lo = 0 ∧ HT.sIx l.length l.length hi = l.length then none else some (.tup (cutL l lo hi))
  | .str z, lo, hi => if z.length ≤ LINE then some (.str (cutS z lo hi)) else none
  | _, _, _ => none
theorem Reps.cut {K : PySem.W.Frag} {F : Hp} {l : List D} {vs : List V} (r : Reps K adr F l vs) (lo hi : Option Int) : Reps K adr F (cutL l lo hi) (cutV vs lo hi) := by
  unfold cutL cutV
  rw [← r.length]
  exact (r.drop _).take _
/-- a part of a slice -/
def PoP (W : Wd) (σ : List (Option V)) (F : Hp) (Wx : WX) (Q : Option Int → Hp → Prop) : Res (Option Int) → Prop := Po W F Wx fun o ρ F' H' => ERel W σ ρ F' H' → Q o H'
def DP (X : Cx) (adr : AdrT) (Wx : WX) (e : Option Expr) (m : M (Option Int)) : Prop := ∃ t, PO X e t ∧ ∀ W σ ρ F H Q, In X adr W → ERel W σ ρ F H → PoP W σ F Wx Q (m ρ) → t σ H Q
def pNo : M (Option Int) := fun ρ => .ok none ρ
def pI (m : M D) : M (Option Int) := fun ρ => (m ρ).bind fun x ρ1 => match x with | .int i => .ok (some i) ρ1 | _ => .bad
theorem dp_none : DP X adr Wx none pNo := ⟨_, po_none, fun W σ ρ F H Q i R p => p F H (Same.refl _) R⟩
theorem dp_some {e : Expr} {m : M D} (h : DE X adr Wx e m) : DP X adr Wx (some e) (pI m) := by
  obtain ⟨t, p, q⟩ := h
  refine ⟨_, po_some p, fun W σ ρ F H Q i R p => q W σ ρ F H _ i R (Po.imp (Po.bind p) fun x ρ1 F1 H1 s1 p u R1 r1 => ?_)⟩
  cases x with
  | int k => exact ⟨k, r1, p F1 H1 (Same.refl _) R1⟩
  | _ => exact p.elim
def eSl (m : M D) (ml mh : M (Option Int)) : M D := fun ρ => (m ρ).bind fun x ρ1 => (ml ρ1).bind fun lo ρ2 => (mh ρ2).bind fun hi ρ3 => opt (fSl x lo hi) ρ3
theorem de_sl {e : Expr} {lo hi : Option Expr} {p2 : Pos} {m : M D} {ml mh : M (Option Int)} (h : DE X adr Wx e m) (hl : DP X adr Wx lo ml) (hh : DP X adr Wx hi mh) : DE X adr Wx (.Subscript e (.Slice lo hi none p2) pos) (eSl m ml mh) := by
  obtain ⟨t, pe, q⟩ := h
  obtain ⟨tl, pl, ql⟩ := hl
  obtain ⟨th, ph, qh⟩ := hh
  refine ⟨_, pe_slice ((sl_list.or sl_tup).or sl_str) pe pl ph, fun W σ ρ F H Q i R p => q W σ ρ F H _ i R (p.bind.imp fun x ρ1 F1 H1 s1 p u R1 r1 => ql W σ ρ1 F1 H1 _ i R1 (Po.imp p.bind fun lo ρ2 F2 H2 s2 p R2 =>
    qh W σ ρ2 F2 H2 _ i R2 (Po.imp p.bind fun hi ρ3 F3 H3 s3 p R3 => ?_)))⟩
  obtain ⟨d, e, p⟩ := opt_some p
  have rx := Rep.mono (s2.trans s3) _ _ r1
  cases x <;> simp only [fSl, reduceCtorEq] at e
  · split at e
    · cases e
      exact .inr ⟨_, rx, by rw [← line_eq]; assumption, p F3 H3 (Same.refl _) _ R3 rfl⟩
    · cases e
  · split at e
    · cases e
    · rename_i c
      cases e
      obtain ⟨a, vs, e1, e2, r⟩ := rx
      refine .inl (.inr ⟨a, vs, e1, by rw [← i.k]; exact seqT_same R3.sub e2, by rw [← r.length]; exact c, fun q0 hp => ?_⟩)
      obtain ⟨R', s'⟩ := R3.alloc (o := .tup (cutV vs lo hi)) hp
      exact p _ _ s' _ R' ⟨q0, _, rfl, .inl (.inl upd_same), Reps.mono s' _ _ (r.cut lo hi)⟩
  · cases e
    obtain ⟨a, vs, e1, e2, r⟩ := rx
    refine .inl (.inl ⟨a, vs, e1, .inl (.inl (R3.sub _ _ e2)), fun q hp => ?_⟩)
    obtain ⟨R', s'⟩ := R3.alloc (o := .lst (cutV vs lo hi)) hp
    exact p _ _ s' _ R' ⟨q, _, rfl, upd_same, Reps.mono s' _ _ (r.cut lo hi)⟩
/-! ### argument lists, displays -/
def aNil : M (List D) := fun ρ => .ok [] ρ
def aCons (m : M D) (ms : M (List D)) : M (List D) := fun ρ => (m ρ).bind fun x ρ1 => (ms ρ1).bind fun l ρ2 => .ok (x :: l) ρ2
def seqOf : D → Option (List D)
  | .lst l => some l
  | .tup l => some l
  | _ => none
def aStar (m : M D) (ms : M (List D)) : M (List D) := fun ρ => (m ρ).bind fun x ρ1 => match seqOf x with | some l => (ms ρ1).bind fun l' ρ2 => .ok (l ++ l') ρ2 | none => .bad
theorem da_nil : DA X adr Wx [] aNil := ⟨_, pa_nil, fun W σ ρ F H Q i R p => p F H (Same.refl _) _ R rfl⟩
theorem da_cons {e : Expr} {es : List Expr} {m : M D} {ms : M (List D)} (h : DE X adr Wx e m) (hs : DA X adr Wx es ms) (hst : starEach (e :: es) X.env = (false, eval e X.env) :: starEach es X.env := by rfl) : DA X adr Wx (e :: es) (aCons m ms) := by
  obtain ⟨t, p, q⟩ := h
  obtain ⟨ts, ps, qs⟩ := hs
  exact ⟨_, pa_cons p ps hst, fun W σ ρ F H Q i R p => q W σ ρ F H _ i R (p.bind.imp fun x ρ1 F1 H1 s1 p u R1 r1 => qs W σ ρ1 F1 H1 _ i R1 (p.bind.imp fun l ρ2 F2 H2 s2 p vs R2 r2 =>
    p F2 H2 (Same.refl _) _ R2 ⟨u, vs, rfl, Rep.mono s2 _ _ r1, r2⟩))⟩
theorem da_star {e : Expr} {es : List Expr} {p2 : Pos} {m : M D} {ms : M (List D)} (h : DE X adr Wx e m) (hs : DA X adr Wx es ms) (hst : starEach (.Starred e p2 :: es) X.env = (true, eval e X.env) :: starEach es X.env := by rfl) : DA X adr Wx (.Starred e p2 :: es) (aStar m ms) := by
  obtain ⟨t, p, q⟩ := h
  obtain ⟨ts, ps, qs⟩ := hs
  refine ⟨_, StX.pa_star p ps hst, fun W σ ρ F H Q i R p => q W σ ρ F H _ i R (p.bind.imp fun x ρ1 F1 H1 s1 p u R1 r1 => ?_)⟩
  have key : ∀ l, seqOf x = some l → ∃ a xs, u = .ref a ∧ (SqT X.K H1 a xs ∨ SqL X.K H1 a xs) ∧ Reps W.K W.adr F1 l xs := fun l hl => by
    cases x <;> simp only [seqOf, reduceCtorEq] at hl
    · cases hl
      obtain ⟨a, vs, e1, e2, r⟩ := r1
      exact ⟨a, vs, e1, .inl (by rw [← i.k]; exact seqT_same R1.sub e2), r⟩
    · cases hl
      obtain ⟨a, vs, e1, e2, r⟩ := r1
      exact ⟨a, vs, e1, .inr (.inl (.inl (R1.sub _ _ e2))), r⟩
  cases hl : seqOf x with
  | none => simp only [hl] at p; exact p.elim
  | some l =>
    simp only [hl] at p
    obtain ⟨a, xs, e1, e2, r⟩ := key l hl
    exact ⟨a, xs, e1, e2, qs W σ ρ1 F1 H1 _ i R1 (p.bind.imp fun l' ρ2 F2 H2 s2 p vs R2 r2 => p F2 H2 (Same.refl _) _ R2 ((Reps.mono s2 _ _ r).append r2))⟩
def eTup (ms : M (List D)) : M D := fun ρ => (ms ρ).bind fun l ρ1 => if l.length ≤ LINE then .ok (.tup l) ρ1 else .bad
def xLst (ms : M (List D)) : M Slot := fun ρ => (ms ρ).bind fun l ρ1 => if l.length ≤ LINE then .ok (.own (.lst l)) ρ1 else .bad
theorem de_tup {es : List Expr} {x1 : Nat} {ms : M (List D)} (h : DA X adr Wx es ms) : DE X adr Wx (.Tuple es x1 pos) (eTup ms) := by
  obtain ⟨ts, ps, qs⟩ := h
  refine ⟨_, pe_tup ps, fun W σ ρ F H Q i R p => qs W σ ρ F H _ i R (p.bind.imp fun l ρ1 F1 H1 s1 p vs R1 r1 => ?_)⟩
  split at p
  · rename_i c
    refine ⟨by rw [← r1.length, ← line_eq]; exact c, fun q hp => ?_⟩
    obtain ⟨R', s'⟩ := R1.alloc (o := .tup vs) hp
    exact p _ _ s' _ R' ⟨q, _, rfl, .inl (.inl upd_same), Reps.mono s' _ _ r1⟩
  · exact p.elim
theorem dx_lst {es : List Expr} {ms : M (List D)} (h : DA X adr Wx es ms) : DX X adr Wx (.List es pos) (xLst ms) := by
  obtain ⟨ts, ps, qs⟩ := h
  refine ⟨_, pe_lst ps, fun W σ ρ F H Q i R p => qs W σ ρ F H _ i R (p.bind.imp fun l ρ1 F1 H1 s1 p vs R1 r1 => ?_)⟩
  split at p
  · rename_i c
    refine ⟨by rw [← r1.length, ← line_eq]; exact c, fun q hp => ?_⟩
    exact p _ _ (Same.refl _) _ (R1.newOwn hp r1) (fun z => z) (fun z => nomatch z)
  · exact p.elim
/-! ### calls of built-ins -/
def CallD (X : Cx) (adr : AdrT) (r : List V → Hp → VK → Prop) (f : List D → Option D) : Prop := ∀ W σ ρ F H Q l vs d, In X adr W → ERel W σ ρ F H → Reps W.K W.adr F l vs → f l = some d →
  (∀ z F' H', Same F F' → ERel W σ ρ F' H' → Rep W.K W.adr F' d z → Q z H') → r vs H Q
def eB (f : List D → Option D) (ms : M (List D)) : M D := fun ρ => (ms ρ).bind fun l ρ1 => opt (f l) ρ1
theorem de_callB {r : List V → Hp → VK → Prop} {f : List D → Option D} {id : String} {x : Str} {e : Expr} {es : List Expr} {p : Pos} {ms : M (List D)} (hc : CallR X (.builtin id) r) (hf : CallD X adr r f) (hg : Gl X x) (hm : X.mg x = none) (hv : bootBuiltins x = some (.builtin id))
    (ha : DA X adr Wx (e :: es) ms) (hn : x ≠ "__name__" := by decide) (hdb : (x == ("__debug__" : Str)) = false := by decide)
    (he : starEach (e :: es) X.env = (false, eval e X.env) :: starEach es X.env := by rfl) (hpl : (backTo pos (starEach es X.env)).any (·.1) = false := by rfl) : DE X adr Wx (.Call (.Name x p) (e :: es) [] pos) (eB f ms) := by
  obtain ⟨ts, ps, qs⟩ := ha
  refine ⟨_, pe_callB hc hg hm hv ps hn hdb he hpl, fun W σ ρ F H Q i R p => qs W σ ρ F H _ i R (p.bind.imp fun l ρ1 F1 H1 s1 p vs R1 r1 => ?_)⟩
  obtain ⟨d, e, p⟩ := opt_some p
  exact hf W σ ρ1 F1 H1 Q l vs d i R1 r1 e fun z F3 H3 s3 R3 r3 => p F3 H3 s3 z R3 r3
theorem de_callTy {r : List V → Hp → VK → Prop} {f : List D → Option D} {T : String} {x : Str} {e : Expr} {es : List Expr} {p : Pos} {ms : M (List D)} (hc : CallR X (.type T) r) (hf : CallD X adr r f) (hg : Gl X x) (hm : X.mg x = none) (hv : bootBuiltins x = some (.type T))
    (ha : DA X adr Wx (e :: es) ms) (hn : x ≠ "__name__" := by decide) (hdb : (x == ("__debug__" : Str)) = false := by decide)
    (he : starEach (e :: es) X.env = (false, eval e X.env) :: starEach es X.env := by rfl) (hpl : (backTo pos (starEach es X.env)).any (·.1) = false := by rfl) : DE X adr Wx (.Call (.Name x p) (e :: es) [] pos) (eB f ms) := by
  obtain ⟨ts, ps, qs⟩ := ha
  refine ⟨_, pe_callTy hc hg hm hv ps hn hdb he hpl, fun W σ ρ F H Q i R p => qs W σ ρ F H _ i R (p.bind.imp fun l ρ1 F1 H1 s1 p vs R1 r1 => ?_)⟩
  obtain ⟨d, e, p⟩ := opt_some p
  exact hf W σ ρ1 F1 H1 Q l vs d i R1 r1 e fun z F3 H3 s3 R3 r3 => p F3 H3 s3 z R3 r3
end
end DL

set_option maxHeartbeats 4000000
/-! DL5: built-in functions on data; lists that the def owns. -/
namespace DL
open PySem L2 PyProof.Rows

def intsOf : List D → Option (List Int)
  | [] => some []
  | .int i :: l => (intsOf l).map (i :: ·)
  | _ :: _ => none
def boolsOf : List D → Option (List Bool)
  | [] => some []
  | .bl i :: l => (boolsOf l).map (i :: ·)
  | _ :: _ => none
@[simp] theorem intsOf_map (l : List Int) : intsOf (l.map D.int) = some l := by
  induction l with
  | nil => rfl
  | cons i l ih => show (intsOf (l.map D.int)).map (i :: ·) = _; rw [ih]; rfl
@[simp] theorem boolsOf_map (l : List Bool) : boolsOf (l.map D.bl) = some l := by
  induction l with
  | nil => rfl
  | cons i l ih => show (boolsOf (l.map D.bl)).map (i :: ·) = _; rw [ih]; rfl
theorem intsOf_some : ∀ {l : List D} {ns : List Int}, intsOf l = some ns → l = ns.map D.int
  | [], ns, h => by cases h; rfl
  | .int i :: l, ns, h => by
    cases e : intsOf l with
    | none => simp [intsOf, e] at h
    | some ms =>
      simp only [intsOf, e, Option.map_some, Option.some.injEq] at h
      subst h
      rw [intsOf_some e]; rfl
  | .non :: _, _, h => by simp [intsOf] at h
  | .bl _ :: _, _, h => by simp [intsOf] at h
  | .str _ :: _, _, h => by simp [intsOf] at h
  | .tup _ :: _, _, h => by simp [intsOf] at h
  | .lst _ :: _, _, h => by simp [intsOf] at h
  | .obj _ _ :: _, _, h => by simp [intsOf] at h
  | .scr _ :: _, _, h => by simp [intsOf] at h
  | .exn _ _ :: _, _, h => by simp [intsOf] at h
theorem boolsOf_some : ∀ {l : List D} {ns : List Bool}, boolsOf l = some ns → l = ns.map D.bl
  | [], ns, h => by cases h; rfl
  | .bl i :: l, ns, h => by
    cases e : boolsOf l with
    | none => simp [boolsOf, e] at h
    | some ms =>
      simp only [boolsOf, e, Option.map_some, Option.some.injEq] at h
      subst h
      rw [boolsOf_some e]; rfl
  | .non :: _, _, h => by simp [boolsOf] at h
  | .int _ :: _, _, h => by simp [boolsOf] at h
  | .str _ :: _, _, h => by simp [boolsOf] at h
  | .tup _ :: _, _, h => by simp [boolsOf] at h
  | .lst _ :: _, _, h => by simp [boolsOf] at h
  | .obj _ _ :: _, _, h => by simp [boolsOf] at h
  | .scr _ :: _, _, h => by simp [boolsOf] at h
  | .exn _ _ :: _, _, h => by simp [boolsOf] at h
theorem Reps.ints {K : PySem.W.Frag} {adr : AdrT} {F : Hp} : ∀ {ns : List Int} {vs : List V}, Reps K adr F (ns.map D.int) vs → vs = ns.map V.int
  | [], _, h => h
  | n :: ns, _, ⟨v, r, e, h1, h2⟩ => by rw [e, Reps.ints h2]; rw [show v = V.int n from h1]; rfl
theorem Reps.bools {K : PySem.W.Frag} {adr : AdrT} {F : Hp} : ∀ {ns : List Bool} {vs : List V}, Reps K adr F (ns.map D.bl) vs → vs = ns.map V.bl
  | [], _, h => h
  | n :: ns, _, ⟨v, r, e, h1, h2⟩ => by rw [e, Reps.bools h2]; rw [show v = V.bl n from h1]; rfl
def listMax : Int → List Int → Int
  | m, [] => m
  | m, x :: l => listMax (if x > m then x else m) l
def listMin : Int → List Int → Int
  | m, [] => m
  | m, x :: l => listMin (if x < m then x else m) l
theorem listMax_ge : ∀ (m : Int) (l : List Int), m ≤ listMax m l ∧ ∀ x ∈ l, x ≤ listMax m l
  | m, [] => ⟨Int.le_refl _, fun _ h => nomatch h⟩
  | m, x :: l => by
    unfold listMax
    by_cases c : x > m
    · rw [if_pos c]
      obtain ⟨h1, h2⟩ := listMax_ge x l
      refine ⟨by omega, fun y hy => ?_⟩
      rcases List.mem_cons.mp hy with rfl | hy
      · exact h1
      · exact h2 y hy
    · rw [if_neg c]
      obtain ⟨h1, h2⟩ := listMax_ge m l
      refine ⟨h1, fun y hy => ?_⟩
      rcases List.mem_cons.mp hy with rfl | hy
      · omega
      · exact h2 y hy
theorem listMax_mem : ∀ (m : Int) (l : List Int), listMax m l = m ∨ listMax m l ∈ l
  | m, [] => .inl rfl
  | m, x :: l => by
    unfold listMax
    rcases listMax_mem (if x > m then x else m) l with h | h
    · by_cases c : x > m
      · rw [if_pos c] at h ⊢; exact .inr (by rw [h]; exact List.mem_cons_self)
      · rw [if_neg c] at h ⊢; exact .inl h
    · exact .inr (List.mem_cons_of_mem _ h)
theorem listMin_le : ∀ (m : Int) (l : List Int), listMin m l ≤ m ∧ ∀ x ∈ l, listMin m l ≤ x
  | m, [] => ⟨Int.le_refl _, fun _ h => nomatch h⟩
  | m, x :: l => by
    unfold listMin
    by_cases c : x < m
    · rw [if_pos c]
      obtain ⟨h1, h2⟩ := listMin_le x l
      refine ⟨by omega, fun y hy => ?_⟩
      rcases List.mem_cons.mp hy with rfl | hy
      · exact h1
      · exact h2 y hy
    · rw [if_neg c]
      obtain ⟨h1, h2⟩ := listMin_le m l
      refine ⟨h1, fun y hy => ?_⟩
      rcases List.mem_cons.mp hy with rfl | hy
      · omega
      · exact h2 y hy
theorem listMin_mem : ∀ (m : Int) (l : List Int), listMin m l = m ∨ listMin m l ∈ l
  | m, [] => .inl rfl
  | m, x :: l => by
    unfold listMin
    rcases listMin_mem (if x < m then x else m) l with h | h
    · by_cases c : x < m
      · rw [if_pos c] at h ⊢; exact .inr (by rw [h]; exact List.mem_cons_self)
      · rw [if_neg c] at h ⊢; exact .inl h
    · exact .inr (List.mem_cons_of_mem _ h)
def fLen : List D → Option D
  | [.lst l] => some (.int l.length)
  | [.tup l] => some (.int l.length)
  | [.scr l] => some (.int l.length)
  | [.str z] => if z.length ≤ LINE then some (.int z.length) else none
  | _ => none
def fAbs : List D → Option D
  | [.int i] => some (.int (if i < 0 then -i else i))
  | _ => none
def fMax : List D → Option D
  | [.int i, .int j] => some (.int (if j > i then j else i))
  | [.lst l] => match intsOf l with | some (m :: ns) => some (.int (listMax m ns)) | _ => none
  | _ => none
def fMin : List D → Option D
  | [.int i, .int j] => some (.int (if j < i then j else i))
  | [.lst l] => match intsOf l with | some (m :: ns) => some (.int (listMin m ns)) | _ => none
  | _ => none
def fSum : List D → Option D
  | [.lst l] => (intsOf l).map fun ns => .int ns.sum
  | _ => none
def fAll : List D → Option D
  | [.lst l] => (boolsOf l).map fun bs => .bl (bs.all id)
  | _ => none
def fAny : List D → Option D
  | [.lst l] => (boolsOf l).map fun bs => .bl (bs.any id)
  | _ => none
def fTuple : List D → Option D
  | [.lst l] => some (.tup l)
  | [.tup l] => some (.tup l)
  | _ => none
def fInt : List D → Option D
  | [.int i] => some (.int i)
  | [.bl b] => some (.int (if b = true then 1 else 0))
  | _ => none
def fDivmod : List D → Option D
  | [.int i, .int j] => if divOk j then some (.tup [.int (i.fdiv j), .int (i.fmod j)]) else none
  | _ => none
def fListOf : List D → Option (List D)
  | [.lst l] => some l
  | [.tup l] => some l
  | _ => none
section
variable {X : Cx} {adr : AdrT} {Wx : WX} {pos : Pos}
theorem cd_len : CallD X adr (fun xs H Q => ∃ x n, xs = [x] ∧ LenV X.K x H n ∧ Q (.int n) H) fLen := fun W σ ρ F H Q l vs d i R r e q => by
  match l, e with
  | [.lst l], e =>
    cases e
    obtain ⟨v, _, rfl, ⟨a, us, rfl, h1, h2⟩, rfl⟩ := r
    exact ⟨_, _, rfl, .inl ⟨us, .inl (.inl (R.sub _ _ h1)), h2.length⟩, q _ F H (Same.refl _) R rfl⟩
  | [.tup l], e =>
    cases e
    obtain ⟨v, _, rfl, ⟨a, us, rfl, h1, h2⟩, rfl⟩ := r
    exact ⟨_, _, rfl, .inr ⟨us, (by rw [← i.k]; exact seqT_same R.sub h1), h2.length⟩, q _ F H (Same.refl _) R rfl⟩
  | [.scr l], e =>
    cases e
    obtain ⟨v, _, rfl, ⟨a, rfl, h1⟩, rfl⟩ := r
    exact ⟨_, _, rfl, .inl ⟨_, (by rw [← i.k]; exact R.sub.seq h1), by rw [List.length_map]⟩, q _ F H (Same.refl _) R rfl⟩
  | [.str z], e =>
    obtain ⟨v, _, rfl, h1, rfl⟩ := r
    rw [show v = V.str z from h1]
    simp only [fLen] at e
    split at e
    · cases e
      exact ⟨_, _, rfl, ⟨by rw [← line_eq]; assumption, rfl⟩, q _ F H (Same.refl _) R rfl⟩
    · cases e
theorem cd_abs : CallD X adr (fun xs H Q => ∃ i, xs = [.int i] ∧ Q (.int (if i < 0 then -i else i)) H) fAbs := fun W σ ρ F H Q l vs d i R r e q => by
  match l, e with
  | [.int k], e =>
    cases e
    obtain ⟨v, _, rfl, h1, rfl⟩ := r
    exact ⟨k, by rw [show v = V.int k from h1], q _ F H (Same.refl _) R rfl⟩
abbrev rMaxD' (K : PySem.W.Frag) : List V → Hp → VK → Prop := fun xs H Q => (∃ i j, xs = [.int i, .int j] ∧ Q (.int (if j > i then j else i)) H) ∨ rMax K xs H Q
theorem cr_maxD (hc : X.calm = true) : CallR X (.builtin "max") (rMaxD' X.K) := (call_max2 hc).or (cr_max hc)
theorem cd_max : CallD X adr (rMaxD' X.K) fMax := fun W σ ρ F H Q l vs d i R r e q => by
  match l, e with
  | [.int k, .int j], e =>
    cases e
    obtain ⟨v, _, rfl, h1, u, _, rfl, h2, rfl⟩ := r
    exact .inl ⟨k, j, by rw [show v = V.int k from h1, show u = V.int j from h2], q _ F H (Same.refl _) R rfl⟩
  | [.lst l], e =>
    obtain ⟨v, _, rfl, ⟨a, us, rfl, h1, h2⟩, rfl⟩ := r
    simp only [fMax] at e
    cases e2 : intsOf l with
    | none => simp [e2] at e
    | some ns =>
      cases ns with
      | nil => simp [e2] at e
      | cons m ns =>
        simp only [e2] at e
        cases e
        have el := intsOf_some e2
        subst el
        have eu := h2.ints
        subst eu
        refine .inr ⟨a, m :: ns, rfl, .inl (.inl (R.sub _ _ h1)), by simp, fun y hy hm => ?_⟩
        have g := listMax_ge m ns
        have : y = listMax m ns := by
          have h3 : listMax m ns ≤ y := hm _ (by rcases listMax_mem m ns with z | z <;> simp [z])
          have h4 : y ≤ listMax m ns := by
            rcases List.mem_cons.mp hy with rfl | hy
            · exact g.1
            · exact g.2 y hy
          omega
        rw [this]
        exact q _ F H (Same.refl _) R rfl
abbrev rMinD' (K : PySem.W.Frag) : List V → Hp → VK → Prop := fun xs H Q => (∃ i j, xs = [.int i, .int j] ∧ Q (.int (if j < i then j else i)) H) ∨ rMin K xs H Q
theorem cr_minD (hc : X.calm = true) : CallR X (.builtin "min") (rMinD' X.K) := (call_min2 hc).or (cr_min hc)
theorem cd_min : CallD X adr (rMinD' X.K) fMin := fun W σ ρ F H Q l vs d i R r e q => by
  match l, e with
  | [.int k, .int j], e =>
    cases e
    obtain ⟨v, _, rfl, h1, u, _, rfl, h2, rfl⟩ := r
    exact .inl ⟨k, j, by rw [show v = V.int k from h1, show u = V.int j from h2], q _ F H (Same.refl _) R rfl⟩
  | [.lst l], e =>
    obtain ⟨v, _, rfl, ⟨a, us, rfl, h1, h2⟩, rfl⟩ := r
    simp only [fMin] at e
    cases e2 : intsOf l with
    | none => simp [e2] at e
    | some ns =>
      cases ns with
      | nil => simp [e2] at e
      | cons m ns =>
        simp only [e2] at e
        cases e
        have el := intsOf_some e2
        subst el
        have eu := h2.ints
        subst eu
        refine .inr ⟨a, m :: ns, rfl, .inl (.inl (R.sub _ _ h1)), by simp, fun y hy hm => ?_⟩
        have g := listMin_le m ns
        have : y = listMin m ns := by
          have h3 : y ≤ listMin m ns := hm _ (by rcases listMin_mem m ns with z | z <;> simp [z])
          have h4 : listMin m ns ≤ y := by
            rcases List.mem_cons.mp hy with rfl | hy
            · exact g.1
            · exact g.2 y hy
          omega
        rw [this]
        exact q _ F H (Same.refl _) R rfl
theorem cd_sum : CallD X adr (rSum X.K) fSum := fun W σ ρ F H Q l vs d i R r e q => by
  match l, e with
  | [.lst l], e =>
    obtain ⟨v, _, rfl, ⟨a, us, rfl, h1, h2⟩, rfl⟩ := r
    simp only [fSum] at e
    cases e2 : intsOf l with
    | none => simp [e2] at e
    | some ns =>
      simp only [e2, Option.map_some] at e
      cases e
      have el := intsOf_some e2
      subst el
      have eu := h2.ints
      subst eu
      exact ⟨a, ns, rfl, .inl (.inl (R.sub _ _ h1)), q _ F H (Same.refl _) R rfl⟩
theorem cd_all : CallD X adr (rAll X.K) fAll := fun W σ ρ F H Q l vs d i R r e q => by
  match l, e with
  | [.lst l], e =>
    obtain ⟨v, _, rfl, ⟨a, us, rfl, h1, h2⟩, rfl⟩ := r
    simp only [fAll] at e
    cases e2 : boolsOf l with
    | none => simp [e2] at e
    | some ns =>
      simp only [e2, Option.map_some] at e
      cases e
      have el := boolsOf_some e2
      subst el
      have eu := h2.bools
      subst eu
      exact ⟨a, ns, rfl, .inl (.inl (R.sub _ _ h1)), q _ F H (Same.refl _) R rfl⟩
theorem cd_any : CallD X adr (rAny X.K) fAny := fun W σ ρ F H Q l vs d i R r e q => by
  match l, e with
  | [.lst l], e =>
    obtain ⟨v, _, rfl, ⟨a, us, rfl, h1, h2⟩, rfl⟩ := r
    simp only [fAny] at e
    cases e2 : boolsOf l with
    | none => simp [e2] at e
    | some ns =>
      simp only [e2, Option.map_some] at e
      cases e
      have el := boolsOf_some e2
      subst el
      have eu := h2.bools
      subst eu
      exact ⟨a, ns, rfl, .inl (.inl (R.sub _ _ h1)), q _ F H (Same.refl _) R rfl⟩
abbrev rTup (K : PySem.W.Frag) : List V → Hp → VK → Prop := fun xs H Q => ∃ p ys, xs = [.ref p] ∧ ((SqL K H p ys ∧ ∀ l, H l = none → Q (.ref l) (upd H l (.tup ys))) ∨ (SqT K H p ys ∧ Q (.ref p) H))
theorem cd_tuple : CallD X adr (rTup X.K) fTuple := fun W σ ρ F H Q l vs d i R r e q => by
  match l, e with
  | [.lst l], e =>
    cases e
    obtain ⟨v, _, rfl, ⟨a, us, rfl, h1, h2⟩, rfl⟩ := r
    refine ⟨a, us, rfl, .inl ⟨.inl (.inl (R.sub _ _ h1)), fun p hp => ?_⟩⟩
    obtain ⟨R', s'⟩ := R.alloc (o := .tup us) hp
    exact q _ _ _ s' R' ⟨p, us, rfl, .inl (.inl upd_same), Reps.mono s' _ _ h2⟩
  | [.tup l], e =>
    cases e
    obtain ⟨v, _, rfl, ⟨a, us, rfl, h1, h2⟩, rfl⟩ := r
    exact ⟨a, us, rfl, .inr ⟨(by rw [← i.k]; exact seqT_same R.sub h1), q _ F H (Same.refl _) R ⟨a, us, rfl, h1, h2⟩⟩⟩
abbrev rInt1 : List V → Hp → VK → Prop := fun xs H Q => (∃ i, xs = [.int i] ∧ Q (.int i) H) ∨ ∃ k, xs = [.bl k] ∧ Q (.int (if k then 1 else 0)) H
theorem cd_int : CallD X adr rInt1 fInt := fun W σ ρ F H Q l vs d i R r e q => by
  match l, e with
  | [.int k], e =>
    cases e
    obtain ⟨v, _, rfl, h1, rfl⟩ := r
    exact .inl ⟨k, by rw [show v = V.int k from h1], q _ F H (Same.refl _) R rfl⟩
  | [.bl k], e =>
    cases e
    obtain ⟨v, _, rfl, h1, rfl⟩ := r
    exact .inr ⟨k, by rw [show v = V.bl k from h1], q _ F H (Same.refl _) R rfl⟩
theorem call_divmodX : CallR X (.builtin "divmod") (fun xs H Q => ∃ i j, xs = [.int i, .int j] ∧ divOk j ∧ ∀ p, H p = none → Q (.ref p) (upd H p (.tup [.int (i.fdiv j), .int (i.fmod j)]))) := by
  intro pins s σ H xs us Q I r h
  obtain ⟨i, j, rfl, ⟨h1, h2⟩, q⟩ := h
  obtain ⟨u, w', rfl, ⟨t, rfl⟩, ⟨t', rfl⟩⟩ := vals2 r
  refine divmod_int h1 ?_ (.inl (PyProof.noPylong_of_log2 h2))
  have hn : H s.heap.objs.size = none := I.hok.fresh (Nat.le_refl _)
  refine ⟨.ref s.heap.objs.size, _, ?_, rfl, q _ hn⟩
  refine I.laid (fun b o e => Heap.get?_push_of_some _ e) (Nat.le_refl _) ⟨by simp only [List.length_cons, List.length_nil]; rw [sizeLine_eq]; decide, [.int (i.fdiv j) s.toks, .int (i.fmod j) (s.toks + 1)], .cons ⟨_, rfl⟩ (.cons ⟨_, rfl⟩ .nil), ?_⟩
  exact ⟨_, Heap.get?_push_size s.heap rfl, rfl, 0, rfl⟩
theorem cd_divmod : CallD X adr (fun xs H Q => ∃ i j, xs = [.int i, .int j] ∧ divOk j ∧ ∀ p, H p = none → Q (.ref p) (upd H p (.tup [.int (i.fdiv j), .int (i.fmod j)]))) fDivmod := fun W σ ρ F H Q l vs d i R r e q => by
  match l, e with
  | [.int k, .int j], e =>
    obtain ⟨v, _, rfl, h1, u, _, rfl, h2, rfl⟩ := r
    simp only [fDivmod] at e
    split at e
    · cases e
      refine ⟨k, j, by rw [show v = V.int k from h1, show u = V.int j from h2], by assumption, fun p hp => ?_⟩
      obtain ⟨R', s'⟩ := R.alloc (o := .tup [.int (k.fdiv j), .int (k.fmod j)]) hp
      exact q _ _ _ s' R' ⟨p, _, rfl, .inl (.inl upd_same), ⟨_, _, rfl, rfl, _, _, rfl, rfl, rfl⟩⟩
    · cases e
/-! ### a built-in that gives a new list -/
def CallX (X : Cx) (adr : AdrT) (r : List V → Hp → VK → Prop) (f : List D → Option (List D)) : Prop := ∀ W σ ρ F H Q l vs d, In X adr W → ERel W σ ρ F H → Reps W.K W.adr F l vs → f l = some d →
  (∀ p F' H' us, Same F F' → ERel W σ ρ F' H' → Reps W.K W.adr F' d us → H' p = none → Q (.ref p) (upd H' p (.lst us))) → r vs H Q
def xB (f : List D → Option (List D)) (ms : M (List D)) : M Slot := fun ρ => (ms ρ).bind fun l ρ1 => opt ((f l).map fun d => .own (.lst d)) ρ1
theorem dx_callTy {r : List V → Hp → VK → Prop} {f : List D → Option (List D)} {T : String} {x : Str} {e : Expr} {es : List Expr} {p : Pos} {ms : M (List D)} (hc : CallR X (.type T) r) (hf : CallX X adr r f) (hg : Gl X x) (hm : X.mg x = none) (hv : bootBuiltins x = some (.type T))
    (ha : DA X adr Wx (e :: es) ms) (hn : x ≠ "__name__" := by decide) (hdb : (x == ("__debug__" : Str)) = false := by decide)
    (he : starEach (e :: es) X.env = (false, eval e X.env) :: starEach es X.env := by rfl) (hpl : (backTo pos (starEach es X.env)).any (·.1) = false := by rfl) : DX X adr Wx (.Call (.Name x p) (e :: es) [] pos) (xB f ms) := by
  obtain ⟨ts, ps, qs⟩ := ha
  refine ⟨_, pe_callTy hc hg hm hv ps hn hdb he hpl, fun W σ ρ F H Q i R p => qs W σ ρ F H _ i R (p.bind.imp fun l ρ1 F1 H1 s1 p vs R1 r1 => ?_)⟩
  obtain ⟨d, e, p⟩ := opt_some p
  cases e2 : f l with
  | none => rw [e2] at e; cases e
  | some d' =>
    rw [e2] at e; cases e
    exact hf W σ ρ1 F1 H1 Q l vs d' i R1 r1 e2 fun q F3 H3 us s3 R3 r3 hp => p F3 _ s3 _ (R3.newOwn hp r3) (fun z => z) (fun z => nomatch z)
theorem dx_callB {r : List V → Hp → VK → Prop} {f : List D → Option (List D)} {T : String} {x : Str} {e : Expr} {es : List Expr} {p : Pos} {ms : M (List D)} (hc : CallR X (.builtin T) r) (hf : CallX X adr r f) (hg : Gl X x) (hm : X.mg x = none) (hv : bootBuiltins x = some (.builtin T))
    (ha : DA X adr Wx (e :: es) ms) (hn : x ≠ "__name__" := by decide) (hdb : (x == ("__debug__" : Str)) = false := by decide)
    (he : starEach (e :: es) X.env = (false, eval e X.env) :: starEach es X.env := by rfl) (hpl : (backTo pos (starEach es X.env)).any (·.1) = false := by rfl) : DX X adr Wx (.Call (.Name x p) (e :: es) [] pos) (xB f ms) := by
  obtain ⟨ts, ps, qs⟩ := ha
  refine ⟨_, pe_callB hc hg hm hv ps hn hdb he hpl, fun W σ ρ F H Q i R p => qs W σ ρ F H _ i R (p.bind.imp fun l ρ1 F1 H1 s1 p vs R1 r1 => ?_)⟩
  obtain ⟨d, e, p⟩ := opt_some p
  cases e2 : f l with
  | none => rw [e2] at e; cases e
  | some d' =>
    rw [e2] at e; cases e
    exact hf W σ ρ1 F1 H1 Q l vs d' i R1 r1 e2 fun q F3 H3 us s3 R3 r3 hp => p F3 _ s3 _ (R3.newOwn hp r3) (fun z => z) (fun z => nomatch z)
abbrev rListOf (K : PySem.W.Frag) : List V → Hp → VK → Prop := fun xs H Q => ∃ p ys, xs = [.ref p] ∧ (SqL K H p ys ∨ SqT K H p ys) ∧ ∀ l, H l = none → Q (.ref l) (upd H l (.lst ys))
theorem cx_list : CallX X adr (rListOf X.K) fListOf := fun W σ ρ F H Q l vs d i R r e q => by
  match l, e with
  | [.lst l], e =>
    cases e
    obtain ⟨v, _, rfl, ⟨a, us, rfl, h1, h2⟩, rfl⟩ := r
    exact ⟨a, us, rfl, .inl (.inl (.inl (R.sub _ _ h1))), fun p hp => q p F H us (Same.refl _) R h2 hp⟩
  | [.tup l], e =>
    cases e
    obtain ⟨v, _, rfl, ⟨a, us, rfl, h1, h2⟩, rfl⟩ := r
    exact ⟨a, us, rfl, .inr (by rw [← i.k]; exact seqT_same R.sub h1), fun p hp => q p F H us (Same.refl _) R h2 hp⟩
/-- sorted whole numbers -/
def insI (x : Int) : List Int → List Int
  | [] => [x]
  | y :: l => if x ≤ y then x :: y :: l else y :: insI x l
def sortI : List Int → List Int
  | [] => []
  | x :: l => insI x (sortI l)
theorem insI_perm (x : Int) : ∀ l : List Int, (insI x l).Perm (x :: l)
  | [] => .refl _
  | y :: l => by
    unfold insI
    split
    · exact .refl _
    · exact ((insI_perm x l).cons y).trans (.swap _ _ _)
theorem sortI_perm : ∀ l : List Int, (sortI l).Perm l
  | [] => .refl _
  | x :: l => (insI_perm x _).trans ((sortI_perm l).cons x)
theorem insI_sorted (x : Int) : ∀ l : List Int, l.Pairwise (· ≤ ·) → (insI x l).Pairwise (· ≤ ·)
  | [], _ => by simp [insI]
  | y :: l, h => by
    unfold insI
    obtain ⟨h1, h2⟩ := List.pairwise_cons.mp h
    split
    · refine List.pairwise_cons.mpr ⟨fun z hz => ?_, h⟩
      rcases List.mem_cons.mp hz with rfl | hz
      · assumption
      · exact Int.le_trans (by assumption) (h1 z hz)
    · refine List.pairwise_cons.mpr ⟨fun z hz => ?_, insI_sorted x l h2⟩
      rcases List.mem_cons.mp ((insI_perm x l).mem_iff.mp hz) with rfl | hz
      · omega
      · exact h1 z hz
theorem sortI_sorted : ∀ l : List Int, (sortI l).Pairwise (· ≤ ·)
  | [] => .nil
  | x :: l => insI_sorted x _ (sortI_sorted l)
theorem sorted_unique : ∀ {a b : List Int}, a.Perm b → a.Pairwise (· ≤ ·) → b.Pairwise (· ≤ ·) → a = b
  | [], b, p, _, _ => (List.Perm.nil_eq p)
  | x :: a, [], p, _, _ => absurd p.length_eq (by simp)
  | x :: a, y :: b, p, ha, hb => by
    obtain ⟨h1, h2⟩ := List.pairwise_cons.mp ha
    obtain ⟨h3, h4⟩ := List.pairwise_cons.mp hb
    have e : x = y := by
      have m1 : x ∈ y :: b := p.mem_iff.mp List.mem_cons_self
      have m2 : y ∈ x :: a := p.mem_iff.mpr List.mem_cons_self
      have l1 : y ≤ x := by
        rcases List.mem_cons.mp m1 with q | q
        · omega
        · exact h3 x q
      have l2 : x ≤ y := by
        rcases List.mem_cons.mp m2 with q | q
        · omega
        · exact h1 y q
      omega
    subst e
    rw [sorted_unique (List.Perm.cons_inv p) h2 h4]
end
end DL

set_option maxHeartbeats 4000000
/-! DL6: statements, loops. -/
namespace DL
open PySem L2 PyProof.Rows

inductive Fl where
  | nx | bk | ct | rt (s : Slot)
def GS (W : Wd) (E : Ends) : Fl → List Slot → Hp → Hp → Prop
  | .nx, ρ, F, H => ∀ σ, ERel W σ ρ F H → E.nx σ H
  | .bk, ρ, F, H => ∀ σ, ERel W σ ρ F H → E.bk σ H
  | .ct, ρ, F, H => ∀ σ, ERel W σ ρ F H → E.ct σ H
  | .rt s, ρ, F, H => ∀ σ v, ERel W (σ ++ [some v]) (ρ ++ [s]) F H → ¬ isIo s → s ≠ .no → E.rt v H
def DS (X : Cx) (adr : AdrT) (Wx : WX) (st : Stmt) (m : M Fl) : Prop := ∃ t, PS X st t ∧ ∀ W σ ρ F H E, In X adr W → ERel W σ ρ F H → Po W F Wx (GS W E) (m ρ) → t E σ H
def DSs (X : Cx) (adr : AdrT) (Wx : WX) (sts : List Stmt) (m : M Fl) : Prop := ∃ t, PSs X sts t ∧ ∀ W σ ρ F H E, In X adr W → ERel W σ ρ F H → Po W F Wx (GS W E) (m ρ) → t E σ H

/-! ### slots stored -/
def setS (ρ : List Slot) (i : Nat) (s : Slot) : Option (List Slot) := match ρ[i]? with
  | none => none
  | some (.io _) => none
  | some (.hnd _ _) => none
  | some _ => some (ρ.set i s)
theorem setS_some {ρ ρ' : List Slot} {i : Nat} {s : Slot} (h : setS ρ i s = some ρ') : ρ' = ρ.set i s ∧ i < ρ.length ∧ ∀ o, ρ[i]? ≠ some (.io o) := by
  unfold setS at h
  cases e : ρ[i]? with
  | none => rw [e] at h; cases h
  | some z =>
    rw [e] at h
    have hi := (List.getElem?_eq_some_iff.mp e).1
    cases z <;> first | (cases h; exact ⟨rfl, hi, fun o q => by cases q⟩) | cases h
section
variable {W : Wd} {σ : List (Option V)} {ρ ρ' : List Slot} {F H : Hp}
theorem ERel.store {i : Nat} {s : Slot} {v : V} (R : ERel W (σ ++ [some v]) (ρ ++ [s]) F H) (hs : ¬ isIo s) (h : setS ρ i s = some ρ') : ERel W (σ.set i (some v)) ρ' F H := by
  obtain ⟨w, R⟩ := R
  obtain ⟨rfl, hi, hio⟩ := setS_some h
  exact R.store hio hi hs
theorem ERel.storeD {i : Nat} {d : D} {v : V} (R : ERel W σ ρ F H) (r : Rep W.K W.adr F d v) (h : setS ρ i (.frz d) = some ρ') : ERel W (σ.set i (some v)) ρ' F H :=
  (R.pushFrz r).store (fun z => z) h
end
/-! ### targets -/
abbrev Tg := D → List Slot → Option (List Slot)
def DG (X : Cx) (adr : AdrT) (e : Expr) (g : Tg) : Prop := ∃ t, PG X e t ∧ ∀ W σ ρ ρ' F H Q d v, In X adr W → ERel W σ ρ F H → Rep W.K W.adr F d v → g d ρ = some ρ' → (∀ σ', ERel W σ' ρ' F H → Q σ' H) → t v σ H Q
def DGs (X : Cx) (adr : AdrT) (es : List Expr) (g : List D → List Slot → Option (List Slot)) : Prop := ∃ t, PGs X es t ∧ ∀ W σ ρ ρ' F H Q l vs, In X adr W → ERel W σ ρ F H → Reps W.K W.adr F l vs → g l ρ = some ρ' → (∀ σ', ERel W σ' ρ' F H → Q σ' H) → t vs σ H Q
def gN (i : Nat) : Tg := fun d ρ => setS ρ i (.frz d)
def gNl : List D → List Slot → Option (List Slot)
  | [], ρ => some ρ
  | _ :: _, _ => none
def gCn (g : Tg) (gs : List D → List Slot → Option (List Slot)) : List D → List Slot → Option (List Slot)
  | [], _ => none
  | d :: l, ρ => (g d ρ).bind (gs l)
def gT (n : Nat) (gs : List D → List Slot → Option (List Slot)) : Tg := fun d ρ => match d with
  | .tup l => if l.length = n then gs l ρ else none
  | _ => none
section
variable {X : Cx} {adr : AdrT} {Wx : WX} {pos : Pos}
theorem dg_name (i : Nat) {x : Str} (hN : X.N.Nodup) (hi : X.N[i]? = some x := by rfl) (hx : Loc X.env.scope x := by first | exact Or.inl rfl | exact Or.inr rfl) (hf : X.fn x = true ∨ X.env.scope.names.lookup x = some .local := by first | exact .inl rfl | exact .inr rfl | assumption) : DG X adr (.Name x pos) (gN i) :=
  ⟨_, pg_name hN hi hx hf, fun W σ ρ ρ' F H Q d v i R r h q => q _ (R.storeD r h)⟩
theorem dgs_nil : DGs X adr [] gNl := ⟨_, pgs_nil, fun W σ ρ ρ' F H Q l vs i R r h q => by
  cases l with
  | nil => cases h; exact ⟨r, q _ R⟩
  | cons _ _ => cases h⟩
theorem dgs_cons {e : Expr} {es : List Expr} {g : Tg} {gs : List D → List Slot → Option (List Slot)} (h1 : DG X adr e g) (h2 : DGs X adr es gs) (hs : (assignEach (e :: es) X.env).map (·.2) = assign e X.env :: (assignEach es X.env).map (·.2) := by rfl) : DGs X adr (e :: es) (gCn g gs) := by
  obtain ⟨t, p, q⟩ := h1
  obtain ⟨ts, ps, qs⟩ := h2
  refine ⟨_, pgs_cons p ps hs, fun W σ ρ ρ' F H Q l vs i R r h k => ?_⟩
  cases l with
  | nil => cases h
  | cons d l =>
    obtain ⟨v, vr, e1, r1, r2⟩ := r
    have h' : (g d ρ).bind (gs l) = some ρ' := h
    cases e2 : g d ρ with
    | none => rw [e2] at h'; cases h'
    | some ρ1 =>
      rw [e2] at h'
      exact ⟨v, vr, e1, q W σ ρ ρ1 F H _ d v i R r1 e2 fun σ1 R1 => qs W σ1 ρ1 ρ' F H Q l vr i R1 r2 h' k⟩
theorem dg_tup {es : List Expr} {k : Nat} {gs : List D → List Slot → Option (List Slot)} {n : Nat} (hc : X.calm = true) (h : DGs X adr es gs) (hn : (assignEach es X.env).length = n := by rfl) (hst : (assignEach es X.env).findIdx? (·.1) = none := by rfl) : DG X adr (.Tuple es k pos) (gT n gs) := by
  obtain ⟨ts, ps, qs⟩ := h
  refine ⟨_, pg_tup hc ps hn hst, fun W σ ρ ρ' F H Q d v i R r h q => ?_⟩
  unfold gT at h
  cases d <;> simp only [reduceCtorEq] at h
  split at h
  · rename_i l c
    obtain ⟨a, vs, e1, e2, r2⟩ := r
    exact ⟨a, vs, e1, (by rw [← i.k]; exact seqT_same R.sub e2), by rw [← r2.length]; exact c, qs W σ ρ ρ' F H Q _ vs i R r2 h q⟩
  · cases h

/-! ### blocks -/
def sNx : M Fl := fun ρ => .ok .nx ρ
def sSeq (m1 m2 : M Fl) : M Fl := fun ρ => (m1 ρ).bind fun fl ρ1 => match fl with
  | .nx => m2 ρ1
  | .bk => .ok .bk ρ1
  | .ct => .ok .ct ρ1
  | .rt s => .ok (.rt s) ρ1
theorem dss_nil : DSs X adr Wx [] sNx := ⟨_, pss_nil, fun W σ ρ F H E i R p => p F H (Same.refl _) σ R⟩
theorem dss_one {st : Stmt} {m : M Fl} (h : DS X adr Wx st m) : DSs X adr Wx [st] m := by
  obtain ⟨t, p, q⟩ := h
  exact ⟨t, pss_one p, q⟩
theorem dss_cons {st : Stmt} {sts : List Stmt} {m ms : M Fl} (h : DS X adr Wx st m) (hs : DSs X adr Wx sts ms) : DSs X adr Wx (st :: sts) (sSeq m ms) := by
  obtain ⟨t, p, q⟩ := h
  obtain ⟨ts, ps, qs⟩ := hs
  refine ⟨_, pss_cons p ps, fun W σ ρ F H E i R p => q W σ ρ F H _ i R (p.bind.imp fun fl ρ1 F1 H1 s1 p => ?_)⟩
  cases fl with
  | nx => exact fun σ1 R1 => qs W σ1 ρ1 F1 H1 E i R1 p
  | bk => exact p F1 H1 (Same.refl _)
  | ct => exact p F1 H1 (Same.refl _)
  | rt s => exact p F1 H1 (Same.refl _)
theorem ds_pass : DS X adr Wx (.Pass pos) sNx := ⟨_, ps_pass, fun W σ ρ F H E i R p => p F H (Same.refl _) σ R⟩
def sBk : M Fl := fun ρ => .ok .bk ρ
def sCt : M Fl := fun ρ => .ok .ct ρ
theorem ds_break : DS X adr Wx (.Break pos) sBk := ⟨_, ps_break, fun W σ ρ F H E i R p => p F H (Same.refl _) σ R⟩
theorem ds_continue : DS X adr Wx (.Continue pos) sCt := ⟨_, ps_continue, fun W σ ρ F H E i R p => p F H (Same.refl _) σ R⟩
def sDrop (m : M D) : M Fl := fun ρ => (m ρ).bind fun _ ρ1 => .ok .nx ρ1
theorem ds_expr {e : Expr} {m : M D} (h : DE X adr Wx e m) (hs : swapsWith e none pos.line X.env = pure false := by rfl) : DS X adr Wx (.Expr e pos) (sDrop m) := by
  obtain ⟨t, p, q⟩ := h
  exact ⟨_, ps_expr p hs, fun W σ ρ F H E i R p => q W σ ρ F H _ i R (p.bind.imp fun d ρ1 F1 H1 s1 p v R1 r1 => p F1 H1 (Same.refl _) σ R1)⟩
def sRet (m : M Slot) : M Fl := fun ρ => (m ρ).bind fun s ρ1 => .ok (.rt s) ρ1
def sRetN : M Fl := fun ρ => .ok (.rt (.frz .non)) ρ
theorem ds_ret {e : Expr} {m : M Slot} (h : DX X adr Wx e m) : DS X adr Wx (.Return (some e) pos) (sRet m) := by
  obtain ⟨t, p, q⟩ := h
  exact ⟨_, ps_ret p, fun W σ ρ F H E i R p => q W σ ρ F H _ i R (p.bind.imp fun d ρ1 F1 H1 s1 p v R1 r1 r2 => p F1 H1 (Same.refl _) σ v R1 r1 r2)⟩
theorem ds_retN : DS X adr Wx (.Return none pos) sRetN := ⟨_, ps_retN, fun W σ ρ F H E i R p => p F H (Same.refl _) σ _ (R.pushFrz (d := .non) rfl) (fun z => z) (fun z => nomatch z)⟩
def sIf (mc : M Bool) (m1 m2 : M Fl) : M Fl := fun ρ => (mc ρ).bind fun b ρ1 => if b = true then m1 ρ1 else m2 ρ1
theorem ds_if {c : Expr} {a b : List Stmt} {mc : M Bool} {m1 m2 : M Fl} (hc : DT X adr Wx c mc) (ha : DSs X adr Wx a m1) (hb : DSs X adr Wx b m2) : DS X adr Wx (.If c a b pos) (sIf mc m1 m2) := by
  obtain ⟨tc, pc, qc⟩ := hc
  obtain ⟨ta, pa, qa⟩ := ha
  obtain ⟨tb, pb, qb⟩ := hb
  refine ⟨_, ps_if pc pa pb, fun W σ ρ F H E i R p => qc W σ ρ F H _ i R (p.bind.imp fun c ρ1 F1 H1 s1 p R1 => ?_)⟩
  cases c with
  | true => rw [if_pos rfl]; exact qa W σ ρ1 F1 H1 E i R1 p
  | false => rw [if_neg (by decide)]; exact qb W σ ρ1 F1 H1 E i R1 p
/-! ### assignments -/
def optS (o : Option (List Slot)) : Res Fl := match o with | some ρ => .ok .nx ρ | none => .bad
def sSet (i : Nat) (m : M Slot) : M Fl := fun ρ => (m ρ).bind fun s ρ1 => optS (setS ρ1 i s)
def sAsg (g : Tg) (m : M D) : M Fl := fun ρ => (m ρ).bind fun d ρ1 => optS (g d ρ1)
theorem optS_some {W : Wd} {F : Hp} {E : Ends} {o : Option (List Slot)} (p : Po W F Wx (GS W E) (optS o)) : ∃ ρ, o = some ρ ∧ ∀ F' H', Same F F' → ∀ σ, ERel W σ ρ F' H' → E.nx σ H' := by
  cases o with
  | none => exact p.elim
  | some ρ => exact ⟨ρ, rfl, p⟩
theorem ds_set (i : Nat) {x : Str} {e : Expr} {m : M Slot} {pos' : Pos} (hN : X.N.Nodup) (h : DX X adr Wx e m) (hi : X.N[i]? = some x := by rfl) (hx : Loc X.env.scope x := by first | exact Or.inl rfl | exact Or.inr rfl)
    (hs : swapsWith e (some (.Name x pos')) pos.line X.env = pure false := by rfl) (hf : X.fn x = true ∨ X.env.scope.names.lookup x = some .local := by first | exact .inl rfl | exact .inr rfl | assumption) : DS X adr Wx (.Assign [.Name x pos'] e pos) (sSet i m) := by
  obtain ⟨t, p, q⟩ := h
  refine ⟨_, ps_set hN hi hx p hs hf, fun W σ ρ F H E i R p => q W σ ρ F H _ i R (p.bind.imp fun s ρ1 F1 H1 s1 p v R1 r1 r2 => ?_)⟩
  obtain ⟨ρ2, e2, p⟩ := optS_some p
  exact p F1 H1 (Same.refl _) _ (R1.store r1 e2)
theorem ds_asg {tg e : Expr} {m : M D} {g : Tg} (h : DE X adr Wx e m) (hg : DG X adr tg g) (hs : swapsWithSole [tg] e pos.line X.env = pure false := by rfl) (hw : swappedStores [tg] e X.env = pure none := by rfl) (h1 : (assignEach [tg] X.env).map (·.2) = [assign tg X.env] := by rfl) : DS X adr Wx (.Assign [tg] e pos) (sAsg g m) := by
  obtain ⟨t, p, q⟩ := h
  obtain ⟨ug, pg, qg⟩ := hg
  refine ⟨_, ps_asg p pg hs hw h1, fun W σ ρ F H E i R p => q W σ ρ F H _ i R (p.bind.imp fun d ρ1 F1 H1 s1 p v R1 r1 => ?_)⟩
  obtain ⟨ρ2, e2, p⟩ := optS_some p
  exact qg W σ ρ1 ρ2 F1 H1 _ d v i R1 r1 e2 fun σ' R' => p F1 H1 (Same.refl _) σ' R'
/-- x += e, x -= e of whole numbers -/
def sAug (f : Int → Int → Int) (i : Nat) (m : M D) : M Fl := fun ρ => match ρ[i]? with
  | some (.frz (.int a)) => (m ρ).bind fun d ρ1 => match d with | .int b => optS (setS ρ1 i (.frz (.int (f a b)))) | _ => .bad
  | _ => .bad
theorem ds_augI {f : Int → Int → Int} (i : Nat) {x : Str} {e : Expr} {m : M D} {pos' : Pos} {op : Operator} (hp : PIp X op (ipI f)) (hN : X.N.Nodup) (h : DE X adr Wx e m) (hi : X.N[i]? = some x := by rfl) (hx : Loc X.env.scope x := by first | exact Or.inl rfl | exact Or.inr rfl)
    (hf : X.fn x = true ∨ X.env.scope.names.lookup x = some .local := by first | exact .inl rfl | exact .inr rfl | assumption) : DS X adr Wx (.AugAssign (.Name x pos') op e pos) (sAug f i m) := by
  obtain ⟨t, pt, q⟩ := h
  refine ⟨_, ps_aug hN hi hx pt hp hf, fun W σ ρ F H E i' R p => ?_⟩
  unfold sAug at p
  cases e1 : ρ[i]? with
  | none => rw [e1] at p; exact p.elim
  | some s =>
    rw [e1] at p
    cases s with
    | frz d =>
      cases d with
      | int a =>
        dsimp only at p
        obtain ⟨w, R0⟩ := id R
        obtain ⟨ov, h1, v, h2, r⟩ := R0.slots i _ e1
        subst h2
        cases (show v = V.int a from r)
        refine ⟨_, h1, q W σ ρ F H _ i' R (p.bind.imp fun d ρ1 F1 H1 s1 p v R1 r1 => ?_)⟩
        cases d with
        | int b =>
          obtain ⟨ρ2, e2, p⟩ := optS_some p
          exact ⟨a, b, rfl, r1, p F1 H1 (Same.refl _) _ (R1.storeD (d := .int (f a b)) rfl e2)⟩
        | _ => exact p.elim
      | _ => exact p.elim
    | _ => exact p.elim
/-! ### while -/
def afterB (k : M Fl) : Fl → M Fl
  | .nx => k
  | .ct => k
  | .bk => fun ρ => .ok .nx ρ
  | .rt s => fun ρ => .ok (.rt s) ρ
def whileS (c : M Bool) (b : M Fl) (k : M Fl) : M Fl := fun ρ => (c ρ).bind fun t ρ1 => if t = true then (b ρ1).bind (afterB k) else .ok .nx ρ1
def whileN (c : M Bool) (b : M Fl) : Nat → M Fl
  | 0 => fun _ => .bad
  | n + 1 => whileS c b (whileN c b n)
theorem whileS_cases (c : M Bool) (b : M Fl) (ρ : List Slot) : (∃ r, ∀ k, whileS c b k ρ = r) ∨ ∃ ρ2, ∀ k, whileS c b k ρ = k ρ2 := by
  unfold whileS
  cases e : c ρ with
  | bad => exact .inl ⟨_, fun _ => rfl⟩
  | exc _ _ _ => exact .inl ⟨_, fun _ => rfl⟩
  | ok t ρ1 =>
    cases t with
    | false => exact .inl ⟨_, fun _ => rfl⟩
    | true =>
      cases e2 : b ρ1 with
      | bad => refine .inl ⟨.bad, fun k => ?_⟩; simp [e2]
      | exc x y z => refine .inl ⟨.exc x y z, fun k => ?_⟩; simp [e2]
      | ok fl ρ2 =>
        cases fl with
        | nx => refine .inr ⟨ρ2, fun k => ?_⟩; simp [e2, afterB]
        | ct => refine .inr ⟨ρ2, fun k => ?_⟩; simp [e2, afterB]
        | bk => refine .inl ⟨.ok .nx ρ2, fun k => ?_⟩; simp [e2, afterB]
        | rt s => refine .inl ⟨.ok (.rt s) ρ2, fun k => ?_⟩; simp [e2, afterB]
theorem whileN_more {c : M Bool} {b : M Fl} : ∀ (n : Nat) (ρ : List Slot), whileN c b n ρ ≠ .bad → whileN c b (n + 1) ρ = whileN c b n ρ
  | 0, _, h => absurd rfl h
  | n + 1, ρ, h => by
    rcases whileS_cases c b ρ with ⟨r, k⟩ | ⟨ρ2, k⟩
    · show whileS c b _ ρ = whileS c b _ ρ
      rw [k, k]
    · have h' : whileS c b (whileN c b n) ρ ≠ .bad := h
      rw [k] at h'
      show whileS c b (whileN c b (n + 1)) ρ = whileS c b (whileN c b n) ρ
      rw [k, k]
      exact whileN_more n ρ2 h'
theorem whileN_le {c : M Bool} {b : M Fl} {n m : Nat} {ρ : List Slot} (hm : n ≤ m) (h : whileN c b n ρ ≠ .bad) : whileN c b m ρ = whileN c b n ρ := by
  induction hm with
  | refl => rfl
  | step hm ih => rw [whileN_more _ _ (by rw [ih]; exact h), ih]
open Classical in
noncomputable def sWhile (c : M Bool) (b : M Fl) : M Fl := fun ρ => if h : ∃ n, whileN c b n ρ ≠ .bad then whileN c b (Classical.choose h) ρ else .bad
theorem sWhile_of {c : M Bool} {b : M Fl} {n : Nat} {ρ : List Slot} (h : whileN c b n ρ ≠ .bad) : sWhile c b ρ = whileN c b n ρ := by
  have hx : ∃ n, whileN c b n ρ ≠ .bad := ⟨n, h⟩
  unfold sWhile
  rw [dif_pos hx]
  have h2 := Classical.choose_spec hx
  rcases Nat.le_total n (Classical.choose hx) with z | z
  · exact whileN_le z h
  · exact (whileN_le z h2).symm
theorem sWhile_ex {c : M Bool} {b : M Fl} {ρ : List Slot} (h : sWhile c b ρ ≠ .bad) : ∃ n, whileN c b n ρ = sWhile c b ρ := by
  unfold sWhile at h ⊢
  by_cases hx : ∃ n, whileN c b n ρ ≠ .bad
  · rw [dif_pos hx]; exact ⟨_, rfl⟩
  · rw [dif_neg hx] at h; exact absurd rfl h
theorem sWhile_not {c : M Bool} {b : M Fl} {ρ : List Slot} (h : ∀ n, whileN c b n ρ = .bad) : sWhile c b ρ = .bad := by
  unfold sWhile
  rw [dif_neg (fun ⟨n, z⟩ => z (h n))]
/-- one turn -/
theorem sWhile_eq (c : M Bool) (b : M Fl) (ρ : List Slot) : sWhile c b ρ = (c ρ).bind fun t ρ1 => if t = true then (b ρ1).bind (afterB (sWhile c b)) else .ok .nx ρ1 := by
  show sWhile c b ρ = whileS c b (sWhile c b) ρ
  rcases whileS_cases c b ρ with ⟨r, k⟩ | ⟨ρ2, k⟩
  · rw [k]
    by_cases hr : r = .bad
    · subst hr
      refine sWhile_not fun n => ?_
      cases n with
      | zero => rfl
      | succ n => exact k _
    · have h1 : whileN c b 1 ρ = r := k _
      rw [sWhile_of (n := 1) (by rw [h1]; exact hr), h1]
  · rw [k]
    have kk : ∀ n, whileN c b (n + 1) ρ = whileN c b n ρ2 := fun n => k _
    by_cases hx : ∃ n, whileN c b n ρ2 ≠ .bad
    · obtain ⟨n, hn⟩ := hx
      rw [sWhile_of hn, sWhile_of (n := n + 1) (by rw [kk]; exact hn), kk]
    · have h0 : ∀ n, whileN c b n ρ2 = .bad := fun n => Classical.byContradiction fun z => hx ⟨n, z⟩
      rw [sWhile_not h0]
      refine sWhile_not fun n => ?_
      cases n with
      | zero => rfl
      | succ n => rw [kk]; exact h0 n
theorem ds_while {c : Expr} {body : List Stmt} {mc : M Bool} {mb : M Fl} (hp : PassesOwn (model X.prog X.w) X.A X.env X.xe) (hc : DT X adr Wx c mc) (hb : DSs X adr Wx body mb) : DS X adr Wx (.While c body [] pos) (sWhile mc mb) := by
  obtain ⟨tc, pc, qc⟩ := hc
  obtain ⟨tb, pb, qb⟩ := hb
  refine ⟨_, ps_while hp pc pb, fun W σ ρ F H E i R p => ?_⟩
  have hbad : sWhile mc mb ρ ≠ .bad := fun z => by rw [z] at p; exact p
  obtain ⟨n, hn⟩ := sWhile_ex hbad
  rw [← hn] at p
  refine ⟨fun m σ H => ∃ ρ F, ERel W σ ρ F H ∧ Po W F Wx (GS W E) (whileN mc mb m ρ), ⟨n, ρ, F, R, p⟩, fun m σ H ⟨ρ, F, R, p⟩ => ?_⟩
  cases m with
  | zero => exact p.elim
  | succ m =>
    unfold whileN whileS at p
    refine qc W σ ρ F H _ i R (p.bind.imp fun t ρ1 F1 H1 s1 p R1 => ?_)
    cases t with
    | false =>
      rw [if_neg (by decide)]
      exact p F1 H1 (Same.refl _) σ R1
    | true =>
      rw [if_pos rfl]
      simp only [if_true] at p
      refine ⟨fun σ' H' => ∃ ρ F, ERel W σ' ρ F H' ∧ Po W F Wx (GS W E) (whileN mc mb m ρ), fun σ' H' h => ⟨m, Nat.lt_succ_self _, h⟩, qb W σ ρ1 F1 H1 _ i R1 (p.bind.imp fun fl ρ2 F2 H2 s2 p => ?_)⟩
      cases fl with
      | nx => exact fun σ' R' => ⟨ρ2, F2, R', p⟩
      | ct => exact fun σ' R' => ⟨ρ2, F2, R', p⟩
      | bk => exact p F2 H2 (Same.refl _)
      | rt s => exact p F2 H2 (Same.refl _)
/-! ### for -/
/-- the turns of J are the items l -/
structure Wlk (K : PySem.W.Frag) (adr : AdrT) (F1 : Hp) (J : It) (l : List D) : Prop where
  go : ∀ (i : Nat) (d : D) (W : Wd) σ ρ F H, l[i]? = some d → W.K = K → W.adr = adr → Same F1 F → ERel W σ ρ F H → J.go i H
  yld : ∀ (i : Nat) (d : D) (W : Wd) σ ρ F H x H', l[i]? = some d → W.K = K → W.adr = adr → Same F1 F → ERel W σ ρ F H → J.yld i H x H' → ∃ F', Same F F' ∧ ERel W σ ρ F' H' ∧ Rep K adr F' d x
  stop : ∀ (W : Wd) σ ρ F H, W.K = K → W.adr = adr → Same F1 F → ERel W σ ρ F H → J.stop l.length H
def DI (X : Cx) (adr : AdrT) (Wx : WX) (tg e : Expr) (m : M (List D)) : Prop := ∃ t, PI X tg e t ∧ ∀ W σ ρ F H (Q : It → Hp → Prop), In X adr W → ERel W σ ρ F H →
  Po W F Wx (fun l ρ1 F1 H1 => ∀ J, ERel W σ ρ1 F1 H1 → Wlk W.K W.adr F1 J l → Q J H1) (m ρ) → t σ H Q
def forL (g : Tg) (b : M Fl) : List D → M Fl
  | [] => fun ρ => .ok .nx ρ
  | d :: l => fun ρ => match g d ρ with
    | none => .bad
    | some ρ1 => (b ρ1).bind fun fl ρ2 => match fl with
      | .nx => forL g b l ρ2
      | .ct => forL g b l ρ2
      | .bk => .ok .nx ρ2
      | .rt s => .ok (.rt s) ρ2
def sFor (g : Tg) (m : M (List D)) (b : M Fl) : M Fl := fun ρ => (m ρ).bind fun l ρ1 => forL g b l ρ1
theorem ds_for {tg iter : Expr} {body : List Stmt} {m : M (List D)} {g : Tg} {mb : M Fl} (hp : PassesOwn (model X.prog X.w) X.A X.env X.xe) (hc : X.calm = true) (hi : DI X adr Wx tg iter m) (hg : DG X adr tg g) (hb : DSs X adr Wx body mb)
    (hs : ∀ x, foldedSetIterable iter X.env x = pure x := by intro _; rfl) : DS X adr Wx (.For tg iter body [] pos) (sFor g m mb) := by
  obtain ⟨ti, pi, qi⟩ := hi
  obtain ⟨ug, pg, qg⟩ := hg
  obtain ⟨tb, pb, qb⟩ := hb
  refine ⟨_, ps_for hp hc pi pg pb hs, fun W σ ρ F H E i R p => qi W σ ρ F H _ i R (p.bind.imp fun l ρ1 F1 H1 s1 p J R1 wl => ?_)⟩
  refine ⟨fun j m σ H => m = l.length - j ∧ j ≤ l.length ∧ ∃ ρ F, Same F1 F ∧ ERel W σ ρ F H ∧ Po W F Wx (GS W E) (forL g mb (l.drop j) ρ), ⟨l.length, rfl, Nat.zero_le _, ρ1, F1, Same.refl _, R1, p⟩, ?_⟩
  rintro j m σ H ⟨rfl, hj, ρ, F, sF, R, p⟩
  by_cases hlt : j < l.length
  · have e : l[j]? = some l[j] := List.getElem?_eq_getElem hlt
    refine .inr ⟨wl.go j _ W σ ρ F H e rfl rfl sF R, fun σ' H' => ∃ ρ F, Same F1 F ∧ ERel W σ' ρ F H' ∧ Po W F Wx (GS W E) (forL g mb (l.drop (j + 1)) ρ), fun σ' H' h => ⟨l.length - (j + 1), by omega, rfl, by omega, h⟩, fun x H' y => ?_⟩
    obtain ⟨F', s', R', r'⟩ := wl.yld j _ W σ ρ F H x H' e rfl rfl sF R y
    rw [List.drop_eq_getElem_cons hlt, forL] at p
    have p := p.sub s'
    cases eg : g l[j] ρ with
    | none => simp only [eg] at p; exact p.elim
    | some ρ2 =>
      simp only [eg] at p
      refine qg W σ ρ ρ2 F' H' _ _ x i R' r' eg fun σ2 R2 => qb W σ2 ρ2 F' H' _ i R2 (p.bind.imp fun fl ρ3 F3 H3 s3 p => ?_)
      have s4 := (sF.trans s').trans s3
      cases fl with
      | nx => exact fun σ' R' => ⟨ρ3, F3, s4, R', p⟩
      | ct => exact fun σ' R' => ⟨ρ3, F3, s4, R', p⟩
      | bk => exact p F3 H3 (Same.refl _)
      | rt s => exact p F3 H3 (Same.refl _)
  · have e : j = l.length := by omega
    subst e
    rw [List.drop_length, forL] at p
    exact .inl ⟨wl.stop W σ ρ F H rfl rfl sF R, p F H (Same.refl _) σ R⟩
/-! ### what is walked -/
def iSeq (m : M D) : M (List D) := fun ρ => (m ρ).bind fun d ρ1 => match d with
  | .lst l => .ok l ρ1
  | .scr l => .ok (l.map D.int) ρ1
  | _ => .bad
def iTpl (m : M D) : M (List D) := fun ρ => (m ρ).bind fun d ρ1 => match d with
  | .tup l => .ok l ρ1
  | _ => .bad
theorem SqL.inj' {H : Hp} {a : Addr} {xs : List V} {K : PySem.W.Frag} (h : H a = some (.lst xs)) : SqL K H a xs := .inl (.inl h)
theorem wlk_list {K : PySem.W.Frag} {F1 : Hp} {a : Addr} {l : List D} {xs : List V} (h : SqL K F1 a xs) (r : Reps K adr F1 l xs) : Wlk K adr F1 (Itl K a) l where
  go := fun i d W σ ρ F H e eK eA s R => by
    obtain ⟨v, e2, _⟩ := r.get e
    exact ⟨xs, v, (s.trans R.sub).seq h, e2⟩
  yld := fun i d W σ ρ F H x H' e eK eA s R y => by
    obtain ⟨v, e2, r2⟩ := r.get e
    obtain ⟨rfl, y⟩ := y
    have : x = v := Option.some.inj ((y xs ((s.trans R.sub).seq h)).symm.trans e2)
    subst this
    exact ⟨F, Same.refl _, R, Rep.mono s _ _ r2⟩
  stop := fun W σ ρ F H eK eA s R => ⟨xs, (s.trans R.sub).seq h, by rw [r.length]; exact Nat.le_refl _⟩
theorem wlk_tup {K : PySem.W.Frag} {F1 : Hp} {a : Addr} {l : List D} {xs : List V} (h : SqT K F1 a xs) (r : Reps K adr F1 l xs) : Wlk K adr F1 (Itt K a) l where
  go := fun i d W σ ρ F H e eK eA s R => by
    obtain ⟨v, e2, _⟩ := r.get e
    exact ⟨xs, v, seqT_same (s.trans R.sub) h, e2⟩
  yld := fun i d W σ ρ F H x H' e eK eA s R y => by
    obtain ⟨v, e2, r2⟩ := r.get e
    obtain ⟨rfl, y⟩ := y
    have : x = v := Option.some.inj ((y xs (seqT_same (s.trans R.sub) h)).symm.trans e2)
    subst this
    exact ⟨F, Same.refl _, R, Rep.mono s _ _ r2⟩
  stop := fun W σ ρ F H eK eA s R => ⟨xs, seqT_same (s.trans R.sub) h, by rw [r.length]; exact Nat.le_refl _⟩
theorem Reps.ofInts {K : PySem.W.Frag} {F : Hp} : ∀ ns : List Int, Reps K adr F (ns.map D.int) (ns.map V.int)
  | [] => rfl
  | n :: ns => ⟨_, _, rfl, rfl, Reps.ofInts ns⟩
theorem di_list {tg e : Expr} {m : M D} (h : DE X adr Wx e m) : DI X adr Wx tg e (iSeq m) := by
  obtain ⟨t, p, q⟩ := h
  refine ⟨_, pi_list p, fun W σ ρ F H Q i R p => q W σ ρ F H _ i R (p.bind.imp fun d ρ1 F1 H1 s1 p v R1 r1 => ?_)⟩
  cases d with
  | lst l =>
    obtain ⟨a, vs, e1, e2, r⟩ := r1
    exact ⟨a, e1, ⟨vs, .inl (.inl (R1.sub _ _ e2))⟩, p F1 H1 (Same.refl _) _ R1 (by rw [i.k] at r ⊢; exact wlk_list (.inl (.inl e2)) r)⟩
  | scr l =>
    obtain ⟨a, e1, e2⟩ := r1
    exact ⟨a, e1, ⟨_, by rw [← i.k]; exact R1.sub.seq e2⟩, p F1 H1 (Same.refl _) _ R1 (by rw [← i.k]; exact wlk_list e2 (Reps.ofInts l))⟩
  | _ => exact p.elim
theorem di_tup {tg e : Expr} {m : M D} (h : DE X adr Wx e m) : DI X adr Wx tg e (iTpl m) := by
  obtain ⟨t, p, q⟩ := h
  refine ⟨_, pi_tup p, fun W σ ρ F H Q i R p => q W σ ρ F H _ i R (p.bind.imp fun d ρ1 F1 H1 s1 p v R1 r1 => ?_)⟩
  cases d with
  | tup l =>
    obtain ⟨a, vs, e1, e2, r⟩ := r1
    exact ⟨a, e1, ⟨vs, by rw [← i.k]; exact seqT_same R1.sub e2⟩, p F1 H1 (Same.refl _) _ R1 (by rw [← i.k]; exact wlk_tup e2 r)⟩
  | _ => exact p.elim
/-- the ints from lo on, n of them -/
def rng (lo : Int) (n : Nat) : List D := (List.range n).map fun (i : Nat) => D.int (lo + (i : Int))
def small62 (i : Int) : Prop := -(2 ^ 62) ≤ i ∧ i < 2 ^ 62
noncomputable instance (i : Int) : Decidable (small62 i) := Classical.propDecidable _
noncomputable def iR1 (ms : M (List D)) : M (List D) := fun ρ => (ms ρ).bind fun l ρ1 => match l with
  | [.int j] => if small62 j then .ok (rng 0 j.toNat) ρ1 else .bad
  | _ => .bad
noncomputable def iR2 (ms : M (List D)) : M (List D) := fun ρ => (ms ρ).bind fun l ρ1 => match l with
  | [.int i, .int j] => if small62 i ∧ small62 j then .ok (rng i (j - i).toNat) ρ1 else .bad
  | _ => .bad
theorem wlk_rng {K : PySem.W.Frag} {F1 : Hp} (lo : Int) (n : Nat) : Wlk K adr F1 (Itr lo n) (rng lo n) where
  go := fun i d W σ ρ F H e eK eA s R => by
    have h := (List.getElem?_eq_some_iff.mp e).1
    show i < n
    simpa [rng] using h
  yld := fun i d W σ ρ F H x H' e eK eA s R y => by
    obtain ⟨rfl, rfl⟩ := y
    have e2 : d = .int (lo + i) := by
      have h := (List.getElem?_eq_some_iff.mp e).1
      have hn : i < n := by simpa [rng] using h
      have : (rng lo n)[i]? = some (D.int (lo + i)) := by
        unfold rng
        rw [List.getElem?_map, List.getElem?_range hn]; rfl
      rw [this] at e; exact (Option.some.inj e).symm
    subst e2
    exact ⟨F, Same.refl _, R, rfl⟩
  stop := fun W σ ρ F H eK eA s R => by
    show n ≤ (rng lo n).length
    simp [rng]
theorem di_r1 {tg a : Expr} {p pos : Pos} {ms : M (List D)} (hg : Gl X "range") (hm : X.mg "range" = none) (ha : DA X adr Wx [a] ms) (hs : starEach [a] X.env = [(false, eval a X.env)] := by rfl) : DI X adr Wx tg (.Call (.Name "range" p) [a] [] pos) (iR1 ms) := by
  obtain ⟨t, pa, q⟩ := ha
  refine ⟨_, pi_range1 hg hm pa hs, fun W σ ρ F H Q i R p => q W σ ρ F H _ i R (p.bind.imp fun l ρ1 F1 H1 s1 p vs R1 r1 => ?_)⟩
  match l, p with
  | [.int j], p =>
    obtain ⟨v, _, rfl, h1, rfl⟩ := r1
    simp only at p
    split at p
    · rename_i c
      exact ⟨j, by rw [show v = V.int j from h1], c.1, c.2, p F1 H1 (Same.refl _) _ R1 (wlk_rng _ _)⟩
    · exact p.elim
theorem di_r2 {tg a b : Expr} {p pos : Pos} {ms : M (List D)} (hg : Gl X "range") (hm : X.mg "range" = none) (ha : DA X adr Wx [a, b] ms) (hs : starEach [a, b] X.env = [(false, eval a X.env), (false, eval b X.env)] := by rfl) (hs2 : starEach [b] X.env = [(false, eval b X.env)] := by rfl) : DI X adr Wx tg (.Call (.Name "range" p) [a, b] [] pos) (iR2 ms) := by
  obtain ⟨t, pa, q⟩ := ha
  refine ⟨_, pi_range2 hg hm pa hs hs2, fun W σ ρ F H Q i R p => q W σ ρ F H _ i R (p.bind.imp fun l ρ1 F1 H1 s1 p vs R1 r1 => ?_)⟩
  match l, p with
  | [.int k, .int j], p =>
    obtain ⟨v, _, rfl, h1, u, _, rfl, h2, rfl⟩ := r1
    simp only at p
    split at p
    · rename_i c
      exact ⟨k, j, by rw [show v = V.int k from h1, show u = V.int j from h2], ⟨c.1.1, c.1.2, c.2.1, c.2.2⟩, p F1 H1 (Same.refl _) _ R1 (wlk_rng _ _)⟩
    · exact p.elim
end
end DL

set_option maxHeartbeats 4000000
/-! DL7: what a def promises, its body, its call. -/
namespace DL
open PySem L2 PyProof.Rows

/-- what a callee may let out: any exception, or those whose context is None -/
def MX : Bool → Program → World → CXT
  | false, P, w => L2.CX P w
  | true, P, w => L2N.CX P w
def TK : Bool → Cx → WX → Prop
  | false, X, W => L2.Takes X W
  | true, X, W => L2N.Takes X W
theorem passAtM {cxm : Bool} {X : Cx} {W : WX} (tk : TK cxm X W) (σ : L2.St) : PassesAt (MX cxm X.prog X.w) X σ (WE W σ) := by
  cases cxm
  · exact L2.passAt tk σ
  · exact L2N.passAt tk σ
theorem passLM {cxm : Bool} {X : Cx} : Passes (MX cxm X.prog X.w) X (fun _ _ _ => False) := fun _ _ _ _ _ _ _ h => by
  cases cxm
  · obtain ⟨_, _, _, _, _, _, _, _, _, _, _, _, z⟩ := h
    exact z.elim
  · obtain ⟨_, _, _, _, _, _, _, _, _, _, _, _, z⟩ := h
    exact z.elim
theorem TK.imp {cxm : Bool} {X : Cx} {W W' : WX} (t : TK cxm X W) (h : ∀ c d σ H, W' c d σ H → W c d σ H) : TK cxm X W' := by
  cases cxm
  · exact L2.Takes.imp t h
  · exact L2N.Takes.imp t h
theorem tk0 {cxm : Bool} {X : Cx} : TK cxm X (fun _ _ _ _ => False) := by
  cases cxm
  · intro _ _ x
    obtain ⟨_, _, _, _, _, _, _, _, _, _, _, _, _, _, _, _, z⟩ := x
    exact z.elim
  · intro _ _ x
    obtain ⟨_, _, _, _, _, _, _, _, _, _, _, _, _, _, _, _, z⟩ := x
    exact z.elim
theorem tkM {cxm : Bool} {X : Cx} {E : XK} (hs : X.stack = X.env :: X.outer) (hf : X.env.frame = some X.env.locals) (hex : X.ex = []) {E₁ : Value → Shared → Prop}
    (hx : X.xe = fun e s' => wpAny (model X.prog X.w) X.A (leaving X.env e) (fun _ s'' => MX cxm X.prog X.w X.outer X.H_0 X.s_0 E e s'') E₁ s') : TK cxm X (fun cls d _ H => E cls d H) := by
  cases cxm
  · exact L2.takes_of hs hf hex hx
  · exact L2N.takes_of hs hf hex hx
theorem okM {cxm : Bool} {P : Program} {w : World} {K : PySem.W.Frag} {mg : Str → Option Value} {base : Heap} {x qual : Str} {st : Stmt} {f : Addr} {fd : FuncData} {N ps : List Str} {k : Nat} {sp : Sp} (F : Fun K x qual st f fd) (S : FnScope N ps (defScope st)) (len : ∀ vs H Q E, sp vs H Q E → vs.length = ps.length)
    (hbody : ∀ (cdv : Value) (A : Around) (outer : List Env) (s : Shared) (H : Hp) (vs : List V) (Q : VK) (E : XK), Room k (A.deeper (envOfC qual (defScope st) s.heap.objs.size f cdv)) → sp vs H Q E →
      ∃ t, PSs (cxOf (MX cxm P w) P w K mg base N qual (defScope st) f cdv A outer s H E) (defBody st) t ∧ t { nx := fun _ H' => Q .non H', rt := Q } (start N vs) H) : FnOk P w K mg base (MX cxm P w) (k + 1) f fd ps sp := by
  obtain ⟨oc, od, kV, doc, pm, an, cdv, ct, osl, rfl, lk, hcd⟩ := F.ex
  exact fn_of lk hcd S len fun A outer s H vs Q E hr hsp => hbody cdv A outer s H vs Q E hr hsp
/-- an argument: data, or a slot whose thing the callee may change -/
inductive Ar where
  | d (x : D) | io (i : Nat)
inductive FR where
  | bad | ok (s : Slot) (os : List O) | exc (c : Nat) (d : D) (os : List O)
abbrev Fn := List Slot → FR
def posOf : List Ar → Nat → Option Nat
  | [], _ => none
  | .io j :: l, i => if j = i then some 0 else (posOf l i).map (· + 1)
  | .d _ :: l, i => (posOf l i).map (· + 1)
def ioNodup : List Ar → Bool
  | [] => true
  | .io i :: l => (posOf l i).isNone && ioNodup l
  | .d _ :: l => ioNodup l
theorem posOf_get : ∀ {l : List Ar} {i k : Nat}, posOf l i = some k → l[k]? = some (.io i)
  | [], _, _, h => by cases h
  | .io j :: l, i, k, h => by
    unfold posOf at h
    by_cases e : j = i
    · rw [if_pos e] at h; cases h; subst e; rfl
    · rw [if_neg e] at h
      cases q : posOf l i with
      | none => rw [q] at h; cases h
      | some m => rw [q] at h; cases h; simpa using posOf_get q
  | .d _ :: l, i, k, h => by
    unfold posOf at h
    cases q : posOf l i with
    | none => rw [q] at h; cases h
    | some m => rw [q] at h; cases h; simpa using posOf_get q
theorem get_posOf : ∀ {l : List Ar} {i k : Nat}, ioNodup l = true → l[k]? = some (.io i) → posOf l i = some k
  | [], _, _, _, h => by simp at h
  | .io j :: l, i, 0, n, h => by
    simp at h; subst h; simp [posOf]
  | .io j :: l, i, k + 1, n, h => by
    simp only [ioNodup, Bool.and_eq_true] at n
    have h' : l[k]? = some (.io i) := by simpa using h
    have q := get_posOf n.2 h'
    have hne : j ≠ i := fun e => by subst e; rw [q] at n; simp at n
    simp [posOf, hne, q]
  | .d _ :: l, i, 0, n, h => by simp at h
  | .d _ :: l, i, k + 1, n, h => by
    have q := get_posOf (l := l) n (by simpa using h)
    simp [posOf, q]
def fill (ρ : List Slot) : List Ar → Option (List Slot)
  | [] => some []
  | .d x :: l => (fill ρ l).map (.frz x :: ·)
  | .io i :: l => match ρ[i]? with
    | some (.own o) => (fill ρ l).map (.io o :: ·)
    | some (.io o) => (fill ρ l).map (.io o :: ·)
    | _ => none
/-- the slot as it stood, with another thing -/
def reO : Slot → O → Option Slot
  | .own _, o => some (.own o)
  | .io _, o => some (.io o)
  | _, _ => none
def putO (ρ : List Slot) (i : Nat) (o : O) : Option (List Slot) := match ρ[i]? with
  | some (.own _) => some (ρ.set i (.own o))
  | some (.io _) => some (ρ.set i (.io o))
  | _ => none
def wb : List Ar → List O → List Slot → Option (List Slot)
  | [], _, ρ => some ρ
  | .d _ :: xs, os, ρ => wb xs os ρ
  | .io i :: xs, o :: os, ρ => (putO ρ i o).bind (wb xs os)
  | .io _ :: _, [], _ => none
def outs : List Slot → List Slot → List O
  | .io _ :: ss, .io o :: ρ => o :: outs ss ρ
  | .io _ :: ss, _ :: ρ => outs ss ρ
  | .frz _ :: ss, _ :: ρ => outs ss ρ
  | .own _ :: ss, _ :: ρ => outs ss ρ
  | .no :: ss, _ :: ρ => outs ss ρ
  | .hnd _ _ :: ss, _ :: ρ => outs ss ρ
  | [], _ => []
  | _ :: _, [] => []
def fixOf : Nat → List V → List Slot → List (Nat × V)
  | k, v :: vs, .io _ :: ss => (k, v) :: fixOf (k + 1) vs ss
  | k, _ :: vs, .frz _ :: ss => fixOf (k + 1) vs ss
  | k, _ :: vs, .own _ :: ss => fixOf (k + 1) vs ss
  | k, _ :: vs, .no :: ss => fixOf (k + 1) vs ss
  | k, _ :: vs, .hnd _ _ :: ss => fixOf (k + 1) vs ss
  | _, _, _ => []
theorem mem_fixOf : ∀ {vs : List V} {ss : List Slot} {k0 k : Nat} {o : O} {v : V}, ss[k]? = some (.io o) → vs[k]? = some v → (k0 + k, v) ∈ fixOf k0 vs ss
  | [], _, _, k, _, _, _, h => by simp at h
  | v :: vs, [], _, k, _, _, h, _ => by simp at h
  | v :: vs, .io o :: ss, k0, 0, _, _, _, h => by simp at h; subst h; exact List.mem_cons_self
  | v :: vs, .frz o :: ss, k0, 0, _, _, h, _ => by simp at h
  | v :: vs, .own o :: ss, k0, 0, _, _, h, _ => by simp at h
  | v :: vs, .no :: ss, k0, 0, _, _, h, _ => by simp at h
  | v :: vs, s :: ss, k0, k + 1, o, u, h, h2 => by
    have ih := mem_fixOf (k0 := k0 + 1) (k := k) (vs := vs) (ss := ss) (o := o) (v := u) (by simpa using h) (by simpa using h2)
    rw [show k0 + 1 + k = k0 + (k + 1) by omega] at ih
    cases s <;> first | exact List.mem_cons_of_mem _ ih | exact ih
theorem of_fixOf : ∀ {vs : List V} {ss : List Slot} {k0 : Nat} {p : Nat × V}, p ∈ fixOf k0 vs ss → ∃ k o, p.1 = k0 + k ∧ ss[k]? = some (.io o) ∧ vs[k]? = some p.2
  | [], ss, k0, p, h => by cases ss <;> simp [fixOf] at h
  | v :: vs, [], k0, p, h => by simp [fixOf] at h
  | v :: vs, s :: ss, k0, p, h => by
    have go : p ∈ fixOf (k0 + 1) vs ss → ∃ k o, p.1 = k0 + k ∧ (s :: ss)[k]? = some (.io o) ∧ (v :: vs)[k]? = some p.2 := fun h => by
      obtain ⟨k, o, e1, e2, e3⟩ := of_fixOf h
      exact ⟨k + 1, o, by omega, by simpa using e2, by simpa using e3⟩
    cases s with
    | io o =>
      rcases List.mem_cons.mp h with rfl | h
      · exact ⟨0, o, rfl, rfl, rfl⟩
      · exact go h
    | frz d => exact go h
    | own o => exact go h
    | hnd c d => exact go h
    | no => exact go h
/-- what a caller has at a call -/
structure Pre (K : PySem.W.Frag) (adr : AdrT) (w : Own) (vs : List V) (ss : List Slot) (F H : Hp) : Prop where
  len : vs.length = ss.length
  sub : Same F H
  owned : ∀ a i, w a = some i → F a = none ∧ H a ≠ none ∧ ∃ s, ss[i]? = some s ∧ isIo s
  slots : ∀ i s, ss[i]? = some s → ∃ v, vs[i]? = some v ∧ SRep K adr w i F H s (some v)
def cWd (K : PySem.W.Frag) (adr : AdrT) (w : Own) (vs : List V) (ss : List Slot) (F H : Hp) : Wd := ⟨K, adr, F, H, w, fixOf 0 vs ss, fun _ => none⟩
def spD (K : PySem.W.Frag) (adr : AdrT) (f : Fn) : Sp := fun vs H Q E => ∃ (F : Hp) (w : Own) (ss : List Slot), Pre K adr w vs ss F H ∧ match f ss with
  | .bad => False
  | .ok s os => ∀ v F' H' σ ρ, ERel (cWd K adr w vs ss F H) (σ ++ [some v]) (ρ ++ [s]) F' H' → ¬ isIo s → s ≠ .no → os = outs ss ρ → Q v H'
  | .exc c d os => ∀ cls dx F' H' σ ρ, ERel (cWd K adr w vs ss F H) σ ρ F' H' → ExcR (cWd K adr w vs ss F H) F' c d cls dx → os = outs ss ρ → E cls dx H'
/-! ### the body -/
def fnRun (n : Nat) (b : M Fl) : Fn := fun ss => match b (ss ++ List.replicate (n - ss.length) .no) with
  | .ok (.rt s) ρ => .ok s (outs ss ρ)
  | .ok .nx ρ => .ok (.frz .non) (outs ss ρ)
  | .exc c d ρ => .exc c d (outs ss ρ)
  | _ => .bad
section
variable {K : PySem.W.Frag} {adr : AdrT} {w : Own} {vs : List V} {ss : List Slot} {F H : Hp}
theorem start_get {N : List Str} {i : Nat} {v : V} (h : vs[i]? = some v) : (L2.start N vs)[i]? = some (some v) := by
  unfold L2.start
  rw [List.getElem?_append_left (by rw [List.length_map]; exact (List.getElem?_eq_some_iff.mp h).1), List.getElem?_map, h]
  rfl
theorem Pre.start (P : Pre K adr w vs ss F H) {N : List Str} (hN : ss.length ≤ N.length) : ERel (cWd K adr w vs ss F H) (L2.start N vs) (ss ++ List.replicate (N.length - ss.length) .no) F H := by
  refine ⟨w, ?_, P.sub, fun _ h => h, fun _ _ => rfl, fun a o h _ => h, fun p hp => ?_, fun a i e => ?_, fun a o e => (by cases e), fun i s e => ?_⟩
  · unfold L2.start
    rw [List.length_append, List.length_append, List.length_map, List.length_replicate, List.length_replicate, P.len]
  · obtain ⟨k, o, e1, e2, e3⟩ := of_fixOf hp
    have e1' : p.1 = k := by omega
    rw [e1']
    exact ⟨start_get e3, o, by rw [List.getElem?_append_left (List.getElem?_eq_some_iff.mp e2).1]; exact e2⟩
  · obtain ⟨h1, h2, s, h3, h4⟩ := P.owned a i e
    exact ⟨h1, h2, .inr ⟨e, s, by rw [List.getElem?_append_left (List.getElem?_eq_some_iff.mp h3).1]; exact h3, h4⟩⟩
  · by_cases hi : i < ss.length
    · rw [List.getElem?_append_left hi] at e
      obtain ⟨v, h1, h2⟩ := P.slots i s e
      exact ⟨some v, start_get h1, h2⟩
    · rw [List.getElem?_append_right (by omega)] at e
      have hlt := (List.getElem?_eq_some_iff.mp e).1
      rw [List.length_replicate] at hlt
      rw [List.getElem?_replicate, if_pos hlt] at e
      cases e
      refine ⟨none, ?_, trivial⟩
      unfold L2.start
      have hl := P.len
      rw [List.getElem?_append_right (by rw [List.length_map]; omega), List.length_map, List.getElem?_replicate, if_pos (by omega)]
end
/-- a def keeps the promise that its body's meaning makes -/
theorem fnD {P : Program} {w0 : World} {K : PySem.W.Frag} {mg : Str → Option Value} {base : Heap} {adr : AdrT} {x qual : Str} {st : Stmt} {f : Addr} {fd : FuncData} {N ps : List Str} {k : Nat} {b : M Fl} {mf : Fn} (Fu : Fun K x qual st f fd) (S : FnScope N ps (defScope st))
    (hN : ps.length ≤ N.length) (hmf : ∀ ss, mf ss ≠ .bad → ss.length = ps.length ∧ mf ss = fnRun N.length b ss)
    (hb : ∀ (cdv : Value) (A : Around) (outer : List Env) (s : Shared) (H : Hp) (E : XK), Room k (A.deeper (envOfC qual (defScope st) s.heap.objs.size f cdv)) →
      DSs (cxOf (MX cxm P w0) P w0 K mg base N qual (defScope st) f cdv A outer s H E) adr (fun cls d _ H => E cls d H) (defBody st) b) : FnOk P w0 K mg base (MX cxm P w0) (k + 1) f fd ps (spD K adr mf) := by
  refine okM Fu S (fun vs H Q E h => ?_) (fun cdv A outer s H vs Q E hr h => ?_)
  · obtain ⟨F, w, ss, P, h⟩ := h
    rw [P.len]
    refine (hmf ss fun z => ?_).1
    rw [z] at h; exact h
  · obtain ⟨F, w, ss, P, h⟩ := h
    have hne : mf ss ≠ .bad := fun z => by rw [z] at h; exact h
    obtain ⟨hl, em⟩ := hmf ss hne
    rw [em] at h
    obtain ⟨t, pt, q⟩ := hb cdv A outer s H E hr
    refine ⟨t, pt, q (cWd K adr w vs ss F H) _ _ F H _ ⟨rfl, rfl⟩ (P.start (N := N) (by omega)) ?_⟩
    unfold fnRun at h
    cases e : b (ss ++ List.replicate (N.length - ss.length) .no) with
    | bad => rw [e] at h; exact h
    | exc c d ρ =>
      rw [e] at h
      exact fun σ cls dx F' H' s R x => h cls dx F' H' σ ρ R x rfl
    | ok fl ρ =>
      rw [e] at h
      intro F' H' s
      cases fl with
      | nx => exact fun σ R => h _ F' H' σ ρ (R.pushFrz (d := .non) rfl) (fun z => z) (fun z => nomatch z) rfl
      | bk => exact h.elim
      | ct => exact h.elim
      | rt s => exact fun σ v R h1 h2 => h v F' H' σ ρ R h1 h2 rfl

/-! ### the call -/
/-- arguments as values -/
def ArRep (W : Wd) (σ : List (Option V)) (F : Hp) : List Ar → List V → Prop
  | [], vs => vs = []
  | .d x :: l, vs => ∃ v r, vs = v :: r ∧ Rep W.K W.adr F x v ∧ ArRep W σ F l r
  | .io i :: l, vs => ∃ v r, vs = v :: r ∧ σ[i]? = some (some v) ∧ ArRep W σ F l r
theorem ArRep.mono {W : Wd} {σ : List (Option V)} {F F' : Hp} (s : Same F F') : ∀ {l : List Ar} {vs : List V}, ArRep W σ F l vs → ArRep W σ F' l vs
  | [], _, h => h
  | .d x :: l, _, ⟨v, r, e, h1, h2⟩ => ⟨v, r, e, Rep.mono s _ _ h1, ArRep.mono s h2⟩
  | .io i :: l, _, ⟨v, r, e, h1, h2⟩ => ⟨v, r, e, h1, ArRep.mono s h2⟩
theorem ArRep.append {W : Wd} {σ : List (Option V)} {F : Hp} : ∀ {l l' : List Ar} {vs vs' : List V}, ArRep W σ F l vs → ArRep W σ F l' vs' → ArRep W σ F (l ++ l') (vs ++ vs')
  | [], _, _, _, h, h' => by rw [show _ = [] from h]; exact h'
  | .d x :: l, _, _, _, ⟨v, r, e, h1, h2⟩, h' => ⟨v, r ++ _, by rw [e]; rfl, h1, ArRep.append h2 h'⟩
  | .io i :: l, _, _, _, ⟨v, r, e, h1, h2⟩, h' => ⟨v, r ++ _, by rw [e]; rfl, h1, ArRep.append h2 h'⟩
theorem ArRep.ofReps {W : Wd} {σ : List (Option V)} {F : Hp} : ∀ {l : List D} {vs : List V}, Reps W.K W.adr F l vs → ArRep W σ F (l.map .d) vs
  | [], _, h => h
  | x :: l, _, ⟨v, r, e, h1, h2⟩ => ⟨v, r, e, h1, ArRep.ofReps h2⟩
section
variable {W : Wd} {w : Own} {σ : List (Option V)} {ρ : List Slot} {F H : Hp}
theorem fill_get : ∀ {xs : List Ar} {ss : List Slot} {k : Nat} {s : Slot}, fill ρ xs = some ss → ss[k]? = some s → (∃ x, xs[k]? = some (.d x) ∧ s = .frz x) ∨ (∃ (i : Nat) (o : O), xs[k]? = some (.io i) ∧ s = .io o ∧ (ρ[i]? = some (.own o) ∨ ρ[i]? = some (.io o)))
  | [], ss, k, s, h, e => by cases h; simp at e
  | .d x :: xs, ss, k, s, h, e => by
    cases q : fill ρ xs with
    | none => simp [fill, q] at h
    | some ts =>
      simp only [fill, q, Option.map_some, Option.some.injEq] at h
      subst h
      cases k with
      | zero => simp at e; exact .inl ⟨x, rfl, e.symm⟩
      | succ k => exact fill_get (k := k) q (by simpa using e)
  | .io i :: xs, ss, k, s, h, e => by
    have go : ∀ o, (ρ[i]? = some (.own o) ∨ ρ[i]? = some (.io o)) → (fill ρ xs).map (Slot.io o :: ·) = some ss →
        ((∃ x, (Ar.io i :: xs)[k]? = some (.d x) ∧ s = .frz x) ∨ (∃ (j : Nat) (o : O), (Ar.io i :: xs)[k]? = some (.io j) ∧ s = .io o ∧ (ρ[j]? = some (.own o) ∨ ρ[j]? = some (.io o)))) := fun o ho h => by
      cases q : fill ρ xs with
      | none => simp [q] at h
      | some ts =>
        simp only [q, Option.map_some, Option.some.injEq] at h
        subst h
        cases k with
        | zero => simp at e; exact .inr ⟨i, o, rfl, e.symm, ho⟩
        | succ k => simpa using fill_get (k := k) q (by simpa using e)
    cases q : ρ[i]? with
    | none => simp [fill, q] at h
    | some z =>
      cases z with
      | own o => simp only [fill, q] at h; exact go o (.inl q) h
      | io o => simp only [fill, q] at h; exact go o (.inr q) h
      | frz d => simp [fill, q] at h
      | hnd c d => simp [fill, q] at h
      | no => simp [fill, q] at h
theorem fill_io : ∀ {xs : List Ar} {ss : List Slot} {k i : Nat}, fill ρ xs = some ss → xs[k]? = some (.io i) → ∃ o, ss[k]? = some (.io o) ∧ (ρ[i]? = some (.own o) ∨ ρ[i]? = some (.io o))
  | [], ss, k, i, h, e => by simp at e
  | .d x :: xs, ss, k, i, h, e => by
    cases q : fill ρ xs with
    | none => simp [fill, q] at h
    | some ts =>
      simp only [fill, q, Option.map_some, Option.some.injEq] at h
      subst h
      cases k with
      | zero => simp at e
      | succ k => simpa using fill_io (k := k) q (by simpa using e)
  | .io j :: xs, ss, k, i, h, e => by
    have go : ∀ o, (ρ[j]? = some (.own o) ∨ ρ[j]? = some (.io o)) → (fill ρ xs).map (Slot.io o :: ·) = some ss → ∃ o, ss[k]? = some (.io o) ∧ (ρ[i]? = some (.own o) ∨ ρ[i]? = some (.io o)) := fun o ho h => by
      cases q : fill ρ xs with
      | none => simp [q] at h
      | some ts =>
        simp only [q, Option.map_some, Option.some.injEq] at h
        subst h
        cases k with
        | zero => simp at e; subst e; exact ⟨o, rfl, ho⟩
        | succ k => simpa using fill_io (k := k) q (by simpa using e)
    cases q : ρ[j]? with
    | none => simp [fill, q] at h
    | some z =>
      cases z with
      | own o => simp only [fill, q] at h; exact go o (.inl q) h
      | io o => simp only [fill, q] at h; exact go o (.inr q) h
      | frz d => simp [fill, q] at h
      | hnd c d => simp [fill, q] at h
      | no => simp [fill, q] at h
theorem fill_len : ∀ {xs : List Ar} {ss : List Slot}, fill ρ xs = some ss → ss.length = xs.length
  | [], ss, h => by cases h; rfl
  | .d x :: xs, ss, h => by
    cases q : fill ρ xs with
    | none => simp [fill, q] at h
    | some ts =>
      simp only [fill, q, Option.map_some, Option.some.injEq] at h
      subst h
      simp [fill_len q]
  | .io j :: xs, ss, h => by
    have go : ∀ o, (fill ρ xs).map (Slot.io o :: ·) = some ss → ss.length = (Ar.io j :: xs).length := fun o h => by
      cases q : fill ρ xs with
      | none => simp [q] at h
      | some ts =>
        simp only [q, Option.map_some, Option.some.injEq] at h
        subst h
        simp [fill_len q]
    cases q : ρ[j]? with
    | none => simp [fill, q] at h
    | some z =>
      cases z with
      | own o => simp only [fill, q] at h; exact go o h
      | io o => simp only [fill, q] at h; exact go o h
      | frz d => simp [fill, q] at h
      | hnd c d => simp [fill, q] at h
      | no => simp [fill, q] at h
theorem ArRep.get : ∀ {xs : List Ar} {vs : List V} {k : Nat}, ArRep W σ F xs vs → (∀ x, xs[k]? = some (.d x) → ∃ v, vs[k]? = some v ∧ Rep W.K W.adr F x v) ∧ (∀ i, xs[k]? = some (.io i) → ∃ v, vs[k]? = some v ∧ σ[i]? = some (some v))
  | [], _, k, h => ⟨fun x e => by simp at e, fun x e => by simp at e⟩
  | .d x :: l, _, 0, ⟨v, r, e, h1, h2⟩ => ⟨fun y e2 => by simp at e2; subst e2; exact ⟨v, by rw [e]; rfl, h1⟩, fun y e2 => by simp at e2⟩
  | .io x :: l, _, 0, ⟨v, r, e, h1, h2⟩ => ⟨fun y e2 => by simp at e2, fun y e2 => by simp at e2; subst e2; exact ⟨v, by rw [e]; rfl, h1⟩⟩
  | .d x :: l, _, k + 1, ⟨v, r, e, h1, h2⟩ => by
    obtain ⟨g1, g2⟩ := ArRep.get (k := k) h2
    rw [e]
    exact ⟨fun y e2 => by simpa using g1 y (by simpa using e2), fun y e2 => by simpa using g2 y (by simpa using e2)⟩
  | .io x :: l, _, k + 1, ⟨v, r, e, h1, h2⟩ => by
    obtain ⟨g1, g2⟩ := ArRep.get (k := k) h2
    rw [e]
    exact ⟨fun y e2 => by simpa using g1 y (by simpa using e2), fun y e2 => by simpa using g2 y (by simpa using e2)⟩
theorem ArRep.len : ∀ {xs : List Ar} {vs : List V}, ArRep W σ F xs vs → xs.length = vs.length
  | [], _, h => by rw [show _ = [] from h]; rfl
  | .d x :: l, _, ⟨v, r, e, h1, h2⟩ => by rw [e]; simp [ArRep.len h2]
  | .io x :: l, _, ⟨v, r, e, h1, h2⟩ => by rw [e]; simp [ArRep.len h2]
/-- the callee's owners -/
def cOwn (w : Own) (xs : List Ar) : Own := fun a => (w a).bind (posOf xs)
theorem cOwn_some {xs : List Ar} {a : Addr} {k : Nat} (h : cOwn w xs a = some k) : ∃ i, w a = some i ∧ posOf xs i = some k ∧ xs[k]? = some (.io i) := by
  unfold cOwn at h
  cases e : w a with
  | none => rw [e] at h; cases h
  | some i => rw [e] at h; exact ⟨i, rfl, h, posOf_get h⟩
theorem call_pre {xs : List Ar} {vs : List V} {ss : List Slot} (R : WRel W w σ ρ F H) (n : ioNodup xs = true) (hf : fill ρ xs = some ss) (r : ArRep W σ F xs vs) : Pre W.K W.adr (cOwn w xs) vs ss F H where
  len := by rw [fill_len hf, r.len]
  sub := R.sub
  owned := fun a k e => by
    obtain ⟨i, e1, e2, e3⟩ := cOwn_some e
    obtain ⟨h1, h2, _⟩ := R.owned a i e1
    obtain ⟨o, e4, _⟩ := fill_io hf e3
    exact ⟨h1, h2, _, e4, trivial⟩
  slots := fun k s e => by
    rcases fill_get hf e with ⟨x, e1, rfl⟩ | ⟨i, o, e1, rfl, e2⟩
    · obtain ⟨v, e3, r1⟩ := (r.get (k := k)).1 x e1
      exact ⟨v, e3, v, rfl, r1⟩
    · obtain ⟨v, e3, r1⟩ := (r.get (k := k)).2 i e1
      have hw : ∀ a, w a = some i → cOwn w xs a = some k ∧ ∀ o, H a = some o → H a = some o := fun a z => ⟨by unfold cOwn; rw [z]; exact get_posOf n e1, fun _ q => q⟩
      rcases e2 with e2 | e2
      · obtain ⟨ov, g1, g2⟩ := R.slots i _ e2
        rw [g1] at r1
        cases r1
        obtain ⟨p, z1, z2⟩ := g2
        exact ⟨v, e3, p, z1, ORep.move (Same.refl _) hw z2⟩
      · obtain ⟨ov, g1, g2⟩ := R.slots i _ e2
        rw [g1] at r1
        cases r1
        obtain ⟨p, z1, z2⟩ := g2
        exact ⟨v, e3, p, z1, ORep.move (Same.refl _) hw z2⟩
/-- the slots behind the call -/
theorem putO_some {ρ ρ' : List Slot} {i : Nat} {o : O} (h : putO ρ i o = some ρ') : ρ'.length = ρ.length ∧ (∀ j, j ≠ i → ρ'[j]? = ρ[j]?) ∧ ((∃ o', ρ[i]? = some (.own o') ∧ ρ'[i]? = some (.own o)) ∨ (∃ o', ρ[i]? = some (.io o') ∧ ρ'[i]? = some (.io o))) := by
  unfold putO at h
  cases e : ρ[i]? with
  | none => rw [e] at h; cases h
  | some z =>
    rw [e] at h
    have hi := (List.getElem?_eq_some_iff.mp e).1
    cases z with
    | own o' => cases h; exact ⟨by simp, fun j hj => by rw [List.getElem?_set_ne (Ne.symm hj)], .inl ⟨o', rfl, by rw [List.getElem?_set_self hi]⟩⟩
    | io o' => cases h; exact ⟨by simp, fun j hj => by rw [List.getElem?_set_ne (Ne.symm hj)], .inr ⟨o', rfl, by rw [List.getElem?_set_self hi]⟩⟩
    | frz d => cases h
    | hnd c d => cases h
    | no => cases h
theorem wb_some : ∀ {xs : List Ar} {ss ρc : List Slot} {ρ ρ2 : List Slot}, ioNodup xs = true → (∀ (k i : Nat), xs[k]? = some (Ar.io i) → ∃ (o o' : O), ss[k]? = some (Slot.io o) ∧ ρc[k]? = some (Slot.io o')) → (∀ (k : Nat) (x : D), xs[k]? = some (Ar.d x) → ∃ y, ss[k]? = some (Slot.frz y)) → wb xs (outs ss ρc) ρ = some ρ2 →
    ρ2.length = ρ.length ∧ (∀ j, posOf xs j = none → ρ2[j]? = ρ[j]?) ∧ ∀ (k i : Nat), xs[k]? = some (Ar.io i) → ∃ o, ρc[k]? = some (Slot.io o) ∧ ((∃ o', ρ[i]? = some (Slot.own o') ∧ ρ2[i]? = some (Slot.own o)) ∨ (∃ o', ρ[i]? = some (Slot.io o') ∧ ρ2[i]? = some (Slot.io o)))
  | [], ss, ρc, ρ, ρ2, _, _, _, h => by
    cases h
    exact ⟨rfl, fun _ _ => rfl, fun k i e => by simp at e⟩
  | .d x :: xs, ss, ρc, ρ, ρ2, n, hio, hd, h => by
    obtain ⟨y, ey⟩ := hd 0 x rfl
    cases ss with
    | nil => simp at ey
    | cons s ss =>
      simp at ey; subst ey
      cases ρc with
      | nil =>
        -- no slot is changed any more
        have h' : wb xs [] ρ = some ρ2 := h
        have noio : ∀ (k i : Nat), xs[k]? ≠ some (Ar.io i) := fun k i e => by
          obtain ⟨o, o', _, q⟩ := hio (k + 1) i (by simpa using e)
          simp at q
        obtain ⟨g1, g2, g3⟩ := wb_some (xs := xs) (ss := ss) (ρc := []) n (fun k i e => absurd e (noio k i)) (fun k x e => by simpa using hd (k + 1) x (by simpa using e)) (by cases ss <;> simpa [outs] using h')
        refine ⟨g1, fun j hj => g2 j ?_, fun k i e => ?_⟩
        · simpa [posOf] using hj
        · cases k with
          | zero => simp at e
          | succ k => exact absurd (by simpa using e) (noio k i)
      | cons c ρc =>
        have h' : wb xs (outs ss ρc) ρ = some ρ2 := h
        obtain ⟨g1, g2, g3⟩ := wb_some (xs := xs) (ss := ss) (ρc := ρc) n (fun k i e => by simpa using hio (k + 1) i (by simpa using e)) (fun k x e => by simpa using hd (k + 1) x (by simpa using e)) h'
        refine ⟨g1, fun j hj => g2 j ?_, fun k i e => ?_⟩
        · simpa [posOf] using hj
        · cases k with
          | zero => simp at e
          | succ k => simpa using g3 k i (by simpa using e)
  | .io j0 :: xs, ss, ρc, ρ, ρ2, n, hio, hd, h => by
    obtain ⟨o, o', e1, e2⟩ := hio 0 j0 rfl
    cases ss with
    | nil => simp at e1
    | cons s ss =>
      simp at e1; subst e1
      cases ρc with
      | nil => simp at e2
      | cons c ρc =>
        simp at e2; subst e2
        have h' : (putO ρ j0 o').bind (wb xs (outs ss ρc)) = some ρ2 := h
        simp only [ioNodup, Bool.and_eq_true] at n
        cases q : putO ρ j0 o' with
        | none => rw [q] at h'; cases h'
        | some ρ1 =>
          rw [q] at h'
          obtain ⟨p1, p2, p3⟩ := putO_some q
          obtain ⟨g1, g2, g3⟩ := wb_some (xs := xs) (ss := ss) (ρc := ρc) n.2 (fun k i e => by simpa using hio (k + 1) i (by simpa using e)) (fun k x e => by simpa using hd (k + 1) x (by simpa using e)) (by simpa using h')
          have nj : posOf xs j0 = none := by simpa using n.1
          refine ⟨g1.trans p1, fun j hj => ?_, fun k i e => ?_⟩
          · by_cases z : j0 = j
            · simp [posOf, z] at hj
            · have hj' : posOf xs j = none := by simpa [posOf, z] using hj
              rw [g2 j hj', p2 j (Ne.symm z)]
          · cases k with
            | zero =>
              simp at e
              subst e
              refine ⟨o', rfl, ?_⟩
              rw [g2 j0 nj]
              exact p3
            | succ k =>
              have e' : xs[k]? = some (.io i) := by simpa using e
              obtain ⟨o2, z1, z2⟩ := g3 k i e'
              have hi : i ≠ j0 := fun z => by subst z; rw [get_posOf n.2 e'] at nj; cases nj
              rw [p2 i hi] at z2
              exact ⟨o2, by simpa using z1, z2⟩
/-- the owners behind the call -/
def nOwn (w w2 : Own) (xs : List Ar) : Own := fun a => match w2 a with
  | some k => (match xs[k]? with | some (Ar.io i) => some i | _ => none)
  | none => (match w a with | some i => (if posOf xs i = none then some i else none) | none => none)
theorem call_post {xs : List Ar} {vs : List V} {ss : List Slot} (R : WRel W w σ ρ F H) (n : ioNodup xs = true) (hf : fill ρ xs = some ss) (r : ArRep W σ F xs vs) {w2 : Own} {σc : List (Option V)} {ρc ρ2 : List Slot} {F' H' : Hp}
    (Rc : WRel (cWd W.K W.adr (cOwn w xs) vs ss F H) w2 σc ρc F' H') (hw : wb xs (outs ss ρc) ρ = some ρ2) : WRel W (nOwn w w2 xs) σ ρ2 F' H' ∧ Same F F' := by
  have oldF : ∀ a, H a ≠ none → F' a = F a := Rc.old
  have sF : Same F F' := fun a o e => by rw [oldF a (by rw [R.sub a o e]; exact fun z => nomatch z)]; exact e
  have keep : ∀ a o, H a = some o → cOwn w xs a = none → H' a = some o := Rc.keep
  have vget : ∀ (k i : Nat), xs[k]? = some (Ar.io i) → ∃ (o : O) (v : V), ss[k]? = some (Slot.io o) ∧ vs[k]? = some v ∧ σ[i]? = some (some v) ∧ (ρ[i]? = some (.own o) ∨ ρ[i]? = some (.io o)) := fun k i e => by
    obtain ⟨o, e1, e2⟩ := fill_io hf e
    obtain ⟨v, e3, e4⟩ := (r.get (k := k)).2 i e
    exact ⟨o, v, e1, e3, e4, e2⟩
  have cio : ∀ (k i : Nat), xs[k]? = some (Ar.io i) → ∃ (v : V) (o : O), vs[k]? = some v ∧ σc[k]? = some (some v) ∧ ρc[k]? = some (Slot.io o) := fun k i e => by
    obtain ⟨o, v, e1, e2, e3, _⟩ := vget k i e
    obtain ⟨h1, o', h2⟩ := Rc.fix (k, v) (by have := mem_fixOf (k0 := 0) (vs := vs) (ss := ss) e1 e2; rw [Nat.zero_add] at this; exact this)
    exact ⟨v, o', e2, h1, h2⟩
  obtain ⟨g1, g2, g3⟩ := wb_some (ss := ss) (ρc := ρc) n (fun k i e => by
    obtain ⟨o, v, e1, _⟩ := vget k i e
    obtain ⟨_, o', _, _, e5⟩ := cio k i e
    exact ⟨o, o', e1, e5⟩) (fun k x e => by
    have hk := (List.getElem?_eq_some_iff.mp e).1
    have hk2 : k < ss.length := by rw [fill_len hf]; exact hk
    rcases fill_get (k := k) hf (List.getElem?_eq_getElem hk2) with ⟨y, z1, z2⟩ | ⟨i, o, z1, _⟩
    · exact ⟨y, by rw [List.getElem?_eq_getElem hk2, z2]⟩
    · rw [e] at z1; cases z1) hw
  -- an address that is not passed on
  have quiet : ∀ a i, w a = some i → posOf xs i = none → w2 a = none ∧ F' a = none ∧ ∀ o, H a = some o → H' a = some o := fun a i e hp => by
    obtain ⟨z1, z2, _⟩ := R.owned a i e
    have hc : cOwn w xs a = none := by unfold cOwn; rw [e]; exact hp
    refine ⟨?_, by rw [oldF a z2]; exact z1, fun o q => keep a o q hc⟩
    cases q : w2 a with
    | none => rfl
    | some k =>
      rcases (Rc.owned a k q).2.2 with y | ⟨y, _⟩
      · exact absurd y z2
      · have y' : cOwn w xs a = some k := y
        rw [hc] at y'; cases y'
  have nown : ∀ a j, nOwn w w2 xs a = some j → (∃ k, w2 a = some k ∧ xs[k]? = some (Ar.io j)) ∨ (w2 a = none ∧ w a = some j ∧ posOf xs j = none) := fun a j e => by
    unfold nOwn at e
    cases q : w2 a with
    | some k =>
      rw [q] at e
      simp only at e
      cases q2 : xs[k]? with
      | none => rw [q2] at e; cases e
      | some y =>
        rw [q2] at e
        cases y with
        | io i => cases e; exact .inl ⟨k, rfl, q2⟩
        | d x => cases e
    | none =>
      rw [q] at e
      simp only at e
      cases q2 : w a with
      | none => rw [q2] at e; cases e
      | some i =>
        rw [q2] at e
        simp only at e
        by_cases hp : posOf xs i = none
        · rw [if_pos hp] at e; cases e; exact .inr ⟨rfl, rfl, hp⟩
        · rw [if_neg hp] at e; cases e
  have passed : ∀ i k, posOf xs i = some k → xs[k]? = some (Ar.io i) := fun i k e => posOf_get e
  have slot2 : ∀ (i : Nat) (s : Slot), ρ[i]? = some s → isIo s → ∃ s', ρ2[i]? = some s' ∧ isIo s' := fun i s e hs => by
    cases hp : posOf xs i with
    | none => exact ⟨s, by rw [g2 i hp]; exact e, hs⟩
    | some k =>
      obtain ⟨o, _, z | ⟨o', z1, z2⟩⟩ := g3 k i (passed i k hp)
      · obtain ⟨o', z1, _⟩ := z
        rw [e] at z1; cases z1; exact hs.elim
      · exact ⟨_, z2, trivial⟩
  have slot3 : ∀ (i : Nat) (o : O), ρ[i]? = some (.io o) → ∃ o', ρ2[i]? = some (.io o') := fun i o e => by
    cases hp : posOf xs i with
    | none => exact ⟨o, by rw [g2 i hp]; exact e⟩
    | some k =>
      obtain ⟨o1, _, z | ⟨o', z1, z2⟩⟩ := g3 k i (passed i k hp)
      · obtain ⟨o', z1, _⟩ := z
        rw [e] at z1; cases z1
      · exact ⟨_, z2⟩
  refine ⟨⟨by rw [g1]; exact R.len, Rc.sub, fun a z => Rc.alive a (R.alive a z), fun a z => by rw [oldF a (R.alive a z)]; exact R.old a z, fun a o z z2 => ?_, fun p hp => ?_, fun a j e => ?_, fun a o e => ?_, fun j s e => ?_⟩, sF⟩
  · have h1 := R.keep a o z z2
    refine keep a o h1 ?_
    cases q : cOwn w xs a with
    | none => rfl
    | some k =>
      obtain ⟨i, e1, _⟩ := cOwn_some q
      rcases (R.owned a i e1).2.2 with y | ⟨y, _⟩
      · rw [y] at z; cases z
      · rw [z2] at y; cases y
  · obtain ⟨h1, o, h2⟩ := R.fix p hp
    obtain ⟨o', z1⟩ := slot3 p.1 _ h2
    exact ⟨h1, o', z1⟩
  · rcases nown a j e with ⟨k, e1, e2⟩ | ⟨e1, e2, e3⟩
    · obtain ⟨z1, z2, z3⟩ := Rc.owned a k e1
      refine ⟨z1, z2, ?_⟩
      rcases z3 with z3 | ⟨z3, _⟩
      · left
        cases q : W.H0 a with
        | none => rfl
        | some o => exact absurd z3 (R.alive a (by rw [q]; exact fun z => nomatch z))
      · obtain ⟨i, y1, y2, y3⟩ := cOwn_some (show cOwn w xs a = some k from z3)
        rw [e2] at y3; cases y3
        refine (R.owned a _ y1).2.2.imp id fun ⟨u1, s, u2, u3⟩ => ?_
        obtain ⟨s', u4, u5⟩ := slot2 _ s u2 u3
        exact ⟨u1, s', u4, u5⟩
    · obtain ⟨y1, y2, y3⟩ := R.owned a j e2
      obtain ⟨_, u2, u3⟩ := quiet a j e2 e3
      refine ⟨u2, ?_, y3.imp id fun ⟨v1, s, v2, v3⟩ => ?_⟩
      · cases q : H a with
        | none => exact absurd q y2
        | some o => rw [u3 o q]; exact fun z => nomatch z
      · obtain ⟨s', u4, u5⟩ := slot2 _ s v2 v3
        exact ⟨v1, s', u4, u5⟩
  · obtain ⟨h1, h2, h3⟩ := R.guard a o e
    have hc : cOwn w xs a = none := by unfold cOwn; rw [h3]; rfl
    have hH : H a ≠ none := by rw [h1]; exact fun z => nomatch z
    have hw2 : w2 a = none := by
      cases q : w2 a with
      | none => rfl
      | some k =>
        rcases (Rc.owned a k q).2.2 with y | ⟨y, _⟩
        · exact absurd y hH
        · rw [show cOwn w xs a = some k from y] at hc; cases hc
    refine ⟨keep a o h1 hc, by rw [oldF a hH]; exact h2, ?_⟩
    unfold nOwn
    rw [hw2, h3]
  · cases hp : posOf xs j with
    | none =>
      rw [g2 j hp] at e
      obtain ⟨ov, h1, h2⟩ := R.slots j s e
      refine ⟨ov, h1, h2.stay sF fun a z => ?_⟩
      obtain ⟨u1, u2, u3⟩ := quiet a j z hp
      refine ⟨?_, u3⟩
      unfold nOwn
      rw [u1, z]
      simp only
      rw [if_pos hp]
    | some k =>
      have ek := passed j k hp
      obtain ⟨o, z0, z⟩ := g3 k j ek
      obtain ⟨o1, v, e1, e2, e3, _⟩ := vget k j ek
      obtain ⟨v', o2, f1, f2, f3⟩ := cio k j ek
      rw [e2] at f1; cases f1
      rw [z0] at f3; cases f3
      obtain ⟨ov, h1, h2⟩ := Rc.slots k _ z0
      rw [f2] at h1; cases h1
      obtain ⟨p, y1, y2⟩ := h2
      have mv : ORep W.K W.adr (nOwn w w2 xs) j F' H' o p := ORep.move (Same.refl _) (fun a q => ⟨by unfold nOwn; rw [q]; simp only; rw [ek], fun _ q => q⟩) y2
      refine ⟨_, e3, ?_⟩
      rcases z with ⟨_, _, z⟩ | ⟨_, _, z⟩
      · rw [z] at e; cases e; exact ⟨p, y1, mv⟩
      · rw [z] at e; cases e; exact ⟨p, y1, mv⟩
/-- .. with what comes back -/
theorem call_back {xs : List Ar} {vs : List V} {ss : List Slot} (R : WRel W w σ ρ F H) (n : ioNodup xs = true) (hf : fill ρ xs = some ss) (r : ArRep W σ F xs vs) {σc : List (Option V)} {ρc ρ2 : List Slot} {F' H' : Hp} {s : Slot} {v : V}
    (Rc : ERel (cWd W.K W.adr (cOwn w xs) vs ss F H) (σc ++ [some v]) (ρc ++ [s]) F' H') (hio : ¬ isIo s) (hno : s ≠ .no) (hw : wb xs (outs ss ρc) ρ = some ρ2) : ERel W (σ ++ [some v]) (ρ2 ++ [s]) F' H' ∧ Same F F' := by
  obtain ⟨w2, Rc⟩ := Rc
  -- the result's place is no argument's
  have hfix : ∀ p ∈ (cWd W.K W.adr (cOwn w xs) vs ss F H).fix, p.1 < ρc.length := fun p hp => by
    obtain ⟨_, o, h2⟩ := Rc.fix p hp
    have h3 := (List.getElem?_eq_some_iff.mp h2).1
    rw [List.length_append] at h3
    simp at h3
    rcases Nat.lt_or_eq_of_le (Nat.le_of_lt_succ h3) with h4 | h4
    · exact h4
    · rw [h4, List.getElem?_append_right (Nat.le_refl _)] at h2
      simp at h2
      subst h2
      exact absurd trivial hio
  have Rp := Rc.pop hfix
  obtain ⟨Rn, sF⟩ := call_post R n hf r Rp hw
  refine ⟨?_, sF⟩
  have hlc : σc.length = ρc.length := ERel.len2 ⟨w2, Rc⟩
  have es : (ρc ++ [s])[ρc.length]? = some s := by rw [List.getElem?_append_right (Nat.le_refl _)]; simp
  have ev : (σc ++ [some v])[ρc.length]? = some (some v) := by rw [← hlc, List.getElem?_append_right (Nat.le_refl _)]; simp
  obtain ⟨ov, h1, h2⟩ := Rc.slots _ _ es
  rw [ev] at h1
  cases h1
  cases s with
  | no => exact absurd rfl hno
  | io o => exact absurd trivial hio
  | hnd c d => exact absurd trivial hio
  | frz d =>
    obtain ⟨u, e, h⟩ := h2
    cases e
    exact ⟨_, Rn.pushFrz h⟩
  | own o =>
    obtain ⟨p, e, h⟩ := h2
    cases e
    have fresh : ∀ a, w2 a = some ρc.length → F' a = none ∧ H' a ≠ none ∧ H a = none := fun a e => by
      obtain ⟨z1, z2, z3⟩ := Rc.owned a _ e
      refine ⟨z1, z2, ?_⟩
      rcases z3 with z3 | ⟨_, s, z4, z5⟩
      · exact z3
      · rw [es] at z4; cases z4; exact z5.elim
    refine ⟨fun a => if w2 a = some ρc.length then some ρ2.length else nOwn w (fun a => if w2 a = some ρc.length then none else w2 a) xs a, Rn.pushOwn (fun a i e => ?_) (fun a i e => ?_) (ORep.move (Same.refl _) (fun a q => ⟨if_pos q, fun _ q => q⟩) h)⟩
    · by_cases q : w2 a = some ρc.length
      · exfalso
        obtain ⟨f1, f2, f3⟩ := fresh a q
        unfold nOwn at e
        simp only [q, if_true] at e
        cases q2 : w a with
        | none => rw [q2] at e; cases e
        | some j => exact (R.owned a j q2).2.1 f3
      · rw [if_neg q]; exact e
    · by_cases q : w2 a = some ρc.length
      · rw [if_pos q] at e
        obtain ⟨f1, f2, f3⟩ := fresh a q
        refine .inr ⟨(Option.some.inj e).symm, f1, f2, ?_, ?_⟩
        · cases q2 : W.H0 a with
          | none => rfl
          | some o => exact absurd f3 (R.alive a (by rw [q2]; exact fun z => nomatch z))
        · cases q2 : W.G a with
          | none => rfl
          | some o => rw [(R.guard a o q2).1] at f3; cases f3
      · rw [if_neg q] at e; exact .inl e
end
/-! ### argument lists, calls of defs -/
section
variable {X : Cx} {adr : AdrT} {Wx : WX} {pos : Pos}
def GA (W : Wd) (σ : List (Option V)) (Q : List V → Hp → Prop) : List Ar → List Slot → Hp → Hp → Prop := fun l ρ F' H' => ∀ vs, ERel W σ ρ F' H' → ArRep W σ F' l vs → Q vs H'
def DAr (X : Cx) (adr : AdrT) (Wx : WX) (es : List Expr) (m : M (List Ar)) : Prop := ∃ t, PA X es t ∧ ∀ W σ ρ F H Q, In X adr W → ERel W σ ρ F H → Po W F Wx (GA W σ Q) (m ρ) → t σ H Q
def rNil : M (List Ar) := fun ρ => .ok [] ρ
def rD (m : M D) (ms : M (List Ar)) : M (List Ar) := fun ρ => (m ρ).bind fun x ρ1 => (ms ρ1).bind fun l ρ2 => .ok (.d x :: l) ρ2
def rIo (i : Nat) (ms : M (List Ar)) : M (List Ar) := fun ρ => match ρ[i]? with
  | some (.own _) => (ms ρ).bind fun l ρ2 => .ok (.io i :: l) ρ2
  | some (.io _) => (ms ρ).bind fun l ρ2 => .ok (.io i :: l) ρ2
  | _ => .bad
def rStar (m : M D) (ms : M (List Ar)) : M (List Ar) := fun ρ => (m ρ).bind fun x ρ1 => match seqOf x with | some l => (ms ρ1).bind fun l' ρ2 => .ok (l.map .d ++ l') ρ2 | none => .bad
theorem dr_nil : DAr X adr Wx [] rNil := ⟨_, pa_nil, fun W σ ρ F H Q i R p => p F H (Same.refl _) _ R rfl⟩
theorem dr_d {e : Expr} {es : List Expr} {m : M D} {ms : M (List Ar)} (h : DE X adr Wx e m) (hs : DAr X adr Wx es ms) (hst : starEach (e :: es) X.env = (false, eval e X.env) :: starEach es X.env := by rfl) : DAr X adr Wx (e :: es) (rD m ms) := by
  obtain ⟨t, p, q⟩ := h
  obtain ⟨ts, ps, qs⟩ := hs
  exact ⟨_, pa_cons p ps hst, fun W σ ρ F H Q i R p => q W σ ρ F H _ i R (p.bind.imp fun x ρ1 F1 H1 s1 p u R1 r1 => qs W σ ρ1 F1 H1 _ i R1 (p.bind.imp fun l ρ2 F2 H2 s2 p vs R2 r2 =>
    p F2 H2 (Same.refl _) _ R2 ⟨u, vs, rfl, Rep.mono s2 _ _ r1, r2⟩))⟩
theorem dr_io (i : Nat) {x : Str} {es : List Expr} {ms : M (List Ar)} (hs : DAr X adr Wx es ms) (hN : X.N[i]? = some x := by rfl) (hv : Vis X.env.scope x := by first | exact Or.inl rfl | exact Or.inr (Or.inl rfl) | exact Or.inr (Or.inr rfl)) (hd : (x == ("__debug__" : Str)) = false := by decide)
    (hcd : (x == ("__classdict__" : Str)) = false := by decide) (hst : starEach (.Name x pos :: es) X.env = (false, eval (.Name x pos) X.env) :: starEach es X.env := by rfl) : DAr X adr Wx (.Name x pos :: es) (rIo i ms) := by
  obtain ⟨ts, ps, qs⟩ := hs
  refine ⟨_, pa_cons (pe_var hN hv hd hcd) ps hst, fun W σ ρ F H Q i' R p => ?_⟩
  have go : ∀ o, (ρ[i]? = some (.own o) ∨ ρ[i]? = some (.io o)) → Po W F Wx (GA W σ Q) ((ms ρ).bind fun l ρ2 => .ok (.io i :: l) ρ2) → tCons (tVar i) ts σ H Q := fun o ho p => by
    have hv : ∃ v, σ[i]? = some (some v) := by
      obtain ⟨w, R0⟩ := R
      rcases ho with ho | ho
      · obtain ⟨ov, h1, p, h2, _⟩ := R0.slots i _ ho; subst h2; exact ⟨_, h1⟩
      · obtain ⟨ov, h1, p, h2, _⟩ := R0.slots i _ ho; subst h2; exact ⟨_, h1⟩
    obtain ⟨v, hv⟩ := hv
    exact ⟨v, hv, qs W σ ρ F H _ i' R (p.bind.imp fun l ρ2 F2 H2 s2 p vs R2 r2 => p F2 H2 (Same.refl _) _ R2 ⟨v, vs, rfl, hv, r2⟩)⟩
  unfold rIo at p
  cases e : ρ[i]? with
  | none => rw [e] at p; exact p.elim
  | some s =>
    rw [e] at p
    cases s with
    | own o => exact go o (.inl e) p
    | io o => exact go o (.inr e) p
    | frz d => exact p.elim
    | hnd c d => exact p.elim
    | no => exact p.elim
theorem dr_star {e : Expr} {es : List Expr} {p2 : Pos} {m : M D} {ms : M (List Ar)} (h : DE X adr Wx e m) (hs : DAr X adr Wx es ms) (hst : starEach (.Starred e p2 :: es) X.env = (true, eval e X.env) :: starEach es X.env := by rfl) : DAr X adr Wx (.Starred e p2 :: es) (rStar m ms) := by
  obtain ⟨t, p, q⟩ := h
  obtain ⟨ts, ps, qs⟩ := hs
  refine ⟨_, StX.pa_star p ps hst, fun W σ ρ F H Q i R p => q W σ ρ F H _ i R (p.bind.imp fun x ρ1 F1 H1 s1 p u R1 r1 => ?_)⟩
  have key : ∀ l, seqOf x = some l → ∃ a xs, u = .ref a ∧ (SqT X.K H1 a xs ∨ SqL X.K H1 a xs) ∧ Reps W.K W.adr F1 l xs := fun l hl => by
    cases x <;> simp only [seqOf, reduceCtorEq] at hl
    · cases hl
      obtain ⟨a, vs, e1, e2, r⟩ := r1
      exact ⟨a, vs, e1, .inl (by rw [← i.k]; exact seqT_same R1.sub e2), r⟩
    · cases hl
      obtain ⟨a, vs, e1, e2, r⟩ := r1
      exact ⟨a, vs, e1, .inr (.inl (.inl (R1.sub _ _ e2))), r⟩
  cases hl : seqOf x with
  | none => simp only [hl] at p; exact p.elim
  | some l =>
    simp only [hl] at p
    obtain ⟨a, xs, e1, e2, r⟩ := key l hl
    exact ⟨a, xs, e1, e2, qs W σ ρ1 F1 H1 _ i R1 (p.bind.imp fun l' ρ2 F2 H2 s2 p vs R2 r2 => p F2 H2 (Same.refl _) _ R2 (ArRep.append (ArRep.mono s2 (ArRep.ofReps r)) r2))⟩
/-- the callee's meaning at some arguments -/
def callF (f : Fn) (xs : List Ar) : M Slot := fun ρ => if ioNodup xs = true then (match fill ρ xs with
  | none => .bad
  | some ss => match f ss with
    | .bad => .bad
    | .ok s os => (match wb xs os ρ with | some ρ2 => .ok s ρ2 | none => .bad)
    | .exc c d os => (match wb xs os ρ with | some ρ2 => .exc c d ρ2 | none => .bad)) else .bad
def xCall (f : Fn) (ms : M (List Ar)) : M Slot := fun ρ => (ms ρ).bind (callF f)
/-- the promise holds at the call -/
theorem callF_sp2 {W : Wd} {σ : List (Option V)} {ρ : List Slot} {F H : Hp} {Q : V → Hp → Prop} {E : Value → Option Addr → Hp → Prop} {f : Fn} {xs : List Ar} {vs : List V} (R : ERel W σ ρ F H) (r : ArRep W σ F xs vs) (hb : callF f xs ρ ≠ .bad)
    (hk : ∀ s ρ2, callF f xs ρ = .ok s ρ2 → ∀ F' H', Same F F' → GX W σ Q s ρ2 F' H')
    (hx : ∀ c d ρ2, callF f xs ρ = .exc c d ρ2 → ∀ cls dx F' H', Same F F' → ERel W σ ρ2 F' H' → ExcR W F' c d cls dx → E cls dx H') : spD W.K W.adr f vs H Q E := by
  obtain ⟨w, R⟩ := R
  unfold callF at hb hk hx
  by_cases n : ioNodup xs = true
  · simp only [if_pos n] at hb hk hx
    cases hf : fill ρ xs with
    | none => rw [hf] at hb; exact absurd rfl hb
    | some ss =>
      simp only [hf] at hb hk hx
      refine ⟨F, cOwn w xs, ss, call_pre R n hf r, ?_⟩
      cases e : f ss with
      | bad => rw [e] at hb; exact absurd rfl hb
      | ok s os =>
        simp only [e] at hb hk hx
        intro v F' H' σc ρc Rc h1 h2 eo
        cases e2 : wb xs os ρ with
        | none => rw [e2] at hb; exact absurd rfl hb
        | some ρ2 =>
          simp only [e2] at hk
          rw [eo] at e2
          obtain ⟨R2, s2⟩ := call_back R n hf r Rc h1 h2 e2
          exact hk s ρ2 rfl F' H' s2 v R2 h1 h2
      | exc c d os =>
        simp only [e] at hb hk hx
        intro cls dx F' H' σc ρc Rc hx' eo
        cases e2 : wb xs os ρ with
        | none => rw [e2] at hb; exact absurd rfl hb
        | some ρ2 =>
          simp only [e2] at hx
          rw [eo] at e2
          obtain ⟨w2, Rc⟩ := Rc
          obtain ⟨R2, s2⟩ := call_post R n hf r Rc e2
          exact hx c d ρ2 rfl cls dx F' H' s2 ⟨_, R2⟩ hx'
  · rw [if_neg n] at hb; exact absurd rfl hb
theorem callF_sp {W : Wd} {σ : List (Option V)} {ρ : List Slot} {F H : Hp} {Q : V → Hp → Prop} {f : Fn} {xs : List Ar} {vs : List V} (R : ERel W σ ρ F H) (r : ArRep W σ F xs vs) (p : PoX W σ F Wx Q (callF f xs ρ)) : spD W.K W.adr f vs H Q (fun cls d H' => Wx cls d σ H') :=
  callF_sp2 R r (fun z => by rw [z] at p; exact p) (fun s ρ2 e => by rw [e] at p; exact p) (fun c d ρ2 e cls dx F' H' s' R' x => by rw [e] at p; exact p σ cls dx F' H' s' R' x)
end
end DL

set_option maxHeartbeats 4000000
/-! DL8: calls of defs, methods, classes. -/
namespace DL
open PySem L2 PyProof.Rows
section
variable {X : Cx} {adr : AdrT} {Wx : WX} {pos : Pos}
/-- the callee runs; an exception is wished for at the slots -/
theorem run_fnRS {pins : List (Addr × Obj)} {σ : L2.St} {H : Hp} {s : Shared} {k : Nat} {f : Addr} {sp : Sp} {Q : VK} {us : List Value} {vs : List V} (F : FnR X.prog X.w X.K X.mg X.base (MX cxm X.prog X.w) k f sp) (hr : Room k X.A) (tk : TK cxm X Wx) (I : Inv X pins σ H s) (r : Vals vs us) (h : sp vs H Q (WE Wx σ)) :
    wpAny (model X.prog X.w) X.A (call (.ref f) us) (EP X pins σ Q) X.xe s := by
  refine wpAny_call (codeAny_mono (F X.A X.stack s H us vs Q _ hr I.env0 r h) fun r s' hq => ?_)
  cases r with
  | error e => exact passAtM tk σ pins H s e s' I hq
  | ok fl =>
    cases fl with
    | ret u => exact I.after hq
    | next => exact False.elim hq
    | brk => exact False.elim hq
    | cont => exact False.elim hq
/-- the promise with its defaults -/
def spF (K : PySem.W.Frag) (adr : AdrT) (f : Fn) (dv : List V) : Sp := fun vs H Q E => spD K adr f (vs ++ dv) H Q E
def tC_ (sp : Sp) (Wx : WX) (t : TA) : TE := fun σ H Q => t σ H fun vs H1 => sp vs H1 Q (WE Wx σ)
variable {k : Nat} {f C : Addr} {x m : Str} {p apos : Pos} {e o : Expr} {es : List Expr} {t : TA} {ta : TE} {sp : Sp}
theorem pe_callD (F : FnR X.prog X.w X.K X.mg X.base (MX cxm X.prog X.w) k f sp) (hr : Room k X.A) (tk : TK cxm X Wx) (hg : Gl X x) (hm : X.mg x = some (.ref f)) (hk : PySem.W.keepIn X.K (.ref f) = true)
    (ha : PA X (e :: es) t) (hdb : (x == ("__debug__" : Str)) = false := by decide) (he : starEach (e :: es) X.env = (false, eval e X.env) :: starEach es X.env := by rfl) (hpl : (backTo pos (starEach es X.env)).any (·.1) = false := by rfl) :
    PE X (.Call (.Name x p) (e :: es) [] pos) (tC_ sp Wx t) := by
  refine ⟨fun pins s σ H Q I h => ?_⟩
  refine wpAny_Call_Name_kw (ld_glob I hg hm ?_ hdb)
  refine PySem.W.callWith_K (h₀ := X.base) I.ok.mod.kin hk (thn (ha.run pos pins s σ H _ I h) fun us s1 ⟨vs, H1, I1, r, q⟩ => ⟨I1.kIn, ?_⟩) he hpl
  exact run_fnRS F hr tk I1 r q
theorem pe_callDS (F : FnR X.prog X.w X.K X.mg X.base (MX cxm X.prog X.w) k f sp) (hr : Room k X.A) (tk : TK cxm X Wx) (hg : Gl X x) (hm : X.mg x = some (.ref f)) (hk : PySem.W.keepIn X.K (.ref f) = true)
    (ha : PA X (e :: es) t) (hd : (x == ("__debug__" : Str)) = false := by decide)
    (he : starEach (e :: es) X.env = (false, eval e X.env) :: starEach es X.env := by rfl) (hst : (backTo pos (starEach es X.env)).any (·.1) = true := by rfl) :
    PE X (.Call (.Name x p) (e :: es) [] pos) (tC_ sp Wx t) := by
  refine ⟨fun pins s σ H Q I h => ?_⟩
  refine wpAny_Call_Name_kw (ld_glob I hg hm ?_ hd)
  refine PySem.W.callWith_S2 (h₀ := X.base) I.ok.mod.kin hk (thn (ha.run pos pins s σ H _ I h) fun us s1 ⟨vs, H1, I1, r, q⟩ => ⟨I1.kIn, ?_⟩) he hst
  exact run_fnRS F hr tk I1 r q
def tM_ (C : Addr) (m : Str) (sp : Sp) (Wx : WX) (ta : TE) (t : TA) : TE := fun σ H Q => ta σ H fun x H1 => ∃ a dx fs, x = .ref a ∧ H1 a = some (.ins C dx fs) ∧ fs.lookup m = none ∧ t σ H1 fun vs H2 => sp (x :: vs) H2 Q (WE Wx σ)
theorem pe_methD {pl : Sem Bool} (F : FnR X.prog X.w X.K X.mg X.base (MX cxm X.prog X.w) k f sp) (hr : Room k X.A) (tk : TK cxm X Wx) (c : Cls X.K C) (hm : Meth X.K C m f) (he : PE X o ta) (ha : PA X (e :: es) t)
    (hst : starEach (e :: es) X.env = (false, eval e X.env) :: starEach es X.env := by rfl) (hpl : (backTo pos (starEach es X.env)).any (·.1) = false := by rfl)
    (ht : eval (.Call (.Attribute o m apos) (e :: es) [] pos) X.env = (do
      let ov ← eval o X.env
      standAt apos.atName
      let (f, first) ← holding [ov] (getMethod ov m pl)
      callWith pos f first (backTo pos (starEach (e :: es) X.env)) (backToKw pos (keywordEach [] X.env))) := by rfl) :
    PE X (.Call (.Attribute o m apos) (e :: es) [] pos) (tM_ C m sp Wx ta t) := by
  refine ⟨fun pins s σ H Q I h => ?_⟩
  refine PySem.W.methodCall_KW (pl := pl) (thn (he.run pins s σ H _ I h) fun u s1 ⟨x, H1, I1, rx, a, dx, fs, ex, ea, l, q⟩ => ?_) ht
  subst ex
  obtain rfl : u = Value.ref a := rx
  refine getmeth_ok I1 ea c hm l ?_
  refine PySem.W.callWith_K (first := [.ref a]) (h₀ := X.base) I.ok.mod.kin hm.kp (thn (ha.run pos pins s1 σ H1 _ I1 q) fun us s2 ⟨vs, H2, I2, r, q2⟩ => ⟨I2.kIn, ?_⟩) hst hpl
  exact run_fnRS (us := .ref a :: us) (vs := .ref a :: vs) F hr tk I2 (.cons rfl r) q2
theorem pe_meth0D {pl : Sem Bool} (F : FnR X.prog X.w X.K X.mg X.base (MX cxm X.prog X.w) k f sp) (hr : Room k X.A) (tk : TK cxm X Wx) (c : Cls X.K C) (hm : Meth X.K C m f) (he : PE X o ta)
    (ht : eval (.Call (.Attribute o m apos) [] [] pos) X.env = (do
      let ov ← eval o X.env
      standAt apos.atName
      let (f, first) ← holding [ov] (getMethod ov m pl)
      callWith pos f first (backTo pos (starEach [] X.env)) (backToKw pos (keywordEach [] X.env))) := by rfl) :
    PE X (.Call (.Attribute o m apos) [] [] pos) (tM_ C m sp Wx ta tNil) := by
  refine ⟨fun pins s σ H Q I h => ?_⟩
  refine PySem.W.methodCall_KW (pl := pl) (thn (he.run pins s σ H _ I h) fun u s1 ⟨x, H1, I1, rx, a, dx, fs, ex, ea, l, q⟩ => ?_) ht
  subst ex
  obtain rfl : u = Value.ref a := rx
  refine getmeth_ok I1 ea c hm l ?_
  exact PySem.W.callWith_K0 (first := [.ref a]) I1.kIn hm.kp (run_fnRS (us := [.ref a]) (vs := [.ref a]) F hr tk I1 (.cons rfl .nil) q)
def tK_ (C : Addr) (sp : Sp) (Wx : WX) (t : TA) : TE := fun σ H Q => t σ H fun vs H1 => ∀ x dx, H1 x = none → H1 dx = none → dx ≠ x →
  sp (.ref x :: vs) (upd (upd H1 dx (.own x)) x (.ins C dx [])) (fun v H2 => v = .non ∧ Q (.ref x) H2) (WE Wx σ)
theorem pe_makeD (M : Mk X.K C f) (F : FnR X.prog X.w X.K X.mg X.base (MX cxm X.prog X.w) k f sp) (hr : Room (k + 1) X.A) (tk : TK cxm X Wx) (hg : Gl X x) (hm : X.mg x = some (.ref C))
    (ha : PA X (e :: es) t) (hdb : (x == ("__debug__" : Str)) = false := by decide) (he : starEach (e :: es) X.env = (false, eval e X.env) :: starEach es X.env := by rfl) (hpl : (backTo pos (starEach es X.env)).any (·.1) = false := by rfl) :
    PE X (.Call (.Name x p) (e :: es) [] pos) (tK_ C sp Wx t) := by
  refine ⟨fun pins s σ H Q I h => ?_⟩
  refine wpAny_Call_Name_kw (ld_glob I hg hm ?_ hdb)
  refine PySem.W.callWith_K (h₀ := X.base) I.ok.mod.kin M.kp (thn (ha.run pos pins s σ H _ I h) fun us s1 ⟨vs, H1, I1, r, q⟩ => ⟨I1.kIn, ?_⟩) he hpl
  have hq := q (s1.heap.objs.size + 1) s1.heap.objs.size (I1.hok.fresh (Nat.le_succ _)) (I1.hok.fresh (Nat.le_refl _)) (Nat.ne_of_lt (Nat.lt_succ_self _))
  have I2 := Inv.made (C := C) I1
  have r2 : Vals (V.ref (s1.heap.objs.size + 1) :: vs) (Value.ref (s1.heap.objs.size + 1) :: us) := .cons rfl r
  refine wpAny_call (make_map (f := f) I1.kIn M.makes M.init (beq_iff_eq.mp M.fn) (codeAny_mono (F _ X.stack _ _ (Value.ref (s1.heap.objs.size + 1) :: us) _ _ _ (hr.make C us []) (I2.env0.make C us []) r2 hq) fun r s' hq' => ?_))
  cases r with
  | error e => exact passAtM tk σ pins _ _ e s' I2 hq'
  | ok fl =>
    cases fl with
    | ret u =>
      obtain ⟨v, H', I3, rv, ev, q3⟩ := I2.after hq'
      subst ev
      exact ⟨rv, ⟨V.ref (s1.heap.objs.size + 1), H', I3, rfl, q3⟩⟩
    | next => exact False.elim hq'
    | brk => exact False.elim hq'
    | cont => exact False.elim hq'

/-! ### on data -/
/-- what a caller knows of a def: its meaning, and its defaults -/
structure FnI (cxm : Bool) (X : Cx) (adr : AdrT) (k : Nat) (f : Addr) (mf : Fn) (dl : List D) : Prop where
  ok : ∃ dv, (∀ F, Reps X.K adr F dl dv) ∧ FnR X.prog X.w X.K X.mg X.base (MX cxm X.prog X.w) k f (spF X.K adr mf dv)
theorem ArRep.dflt {W : Wd} {σ : List (Option V)} {F : Hp} {xs : List Ar} {vs dv : List V} {dl : List D} (r : ArRep W σ F xs vs) (h : ∀ F, Reps W.K W.adr F dl dv) : ArRep W σ F (xs ++ dl.map .d) (vs ++ dv) := r.append (ArRep.ofReps (h F))
def xC (f : Fn) (dl : List D) (ms : M (List Ar)) : M Slot := fun ρ => (ms ρ).bind fun xs ρ1 => callF f (xs ++ dl.map .d) ρ1
theorem dx_call {mf : Fn} {dl : List D} {ms : M (List Ar)} (G : FnI cxm X adr k f mf dl) (hr : Room k X.A) (tk : TK cxm X Wx) (hm : X.mg x = some (.ref f)) (hk : PySem.W.keepIn X.K (.ref f) = true) (ha : DAr X adr Wx (e :: es) ms) (hg : Gl X x := by rfl)
    (hdb : (x == ("__debug__" : Str)) = false := by decide) (he : starEach (e :: es) X.env = (false, eval e X.env) :: starEach es X.env := by rfl) (hpl : (backTo pos (starEach es X.env)).any (·.1) = false := by rfl) :
    DX X adr Wx (.Call (.Name x p) (e :: es) [] pos) (xC mf dl ms) := by
  obtain ⟨dv, hdv, F⟩ := G.ok
  obtain ⟨t, pa, q⟩ := ha
  refine ⟨_, pe_callD F hr tk hg hm hk pa hdb he hpl, fun W σ ρ F H Q i R p => q W σ ρ F H _ i R (p.bind.imp fun xs ρ1 F1 H1 s1 p vs R1 r1 => ?_)⟩
  have hdv' : ∀ F, Reps W.K W.adr F dl dv := by rw [i.k, i.a]; exact hdv
  have h := callF_sp R1 (r1.dflt hdv') p
  rw [i.k, i.a] at h
  exact h
theorem dx_callS {mf : Fn} {dl : List D} {ms : M (List Ar)} (G : FnI cxm X adr k f mf dl) (hr : Room k X.A) (tk : TK cxm X Wx) (hm : X.mg x = some (.ref f)) (hk : PySem.W.keepIn X.K (.ref f) = true) (ha : DAr X adr Wx (e :: es) ms) (hg : Gl X x := by rfl)
    (hdb : (x == ("__debug__" : Str)) = false := by decide) (he : starEach (e :: es) X.env = (false, eval e X.env) :: starEach es X.env := by rfl) (hst : (backTo pos (starEach es X.env)).any (·.1) = true := by rfl) :
    DX X adr Wx (.Call (.Name x p) (e :: es) [] pos) (xC mf dl ms) := by
  obtain ⟨dv, hdv, F⟩ := G.ok
  obtain ⟨t, pa, q⟩ := ha
  refine ⟨_, pe_callDS F hr tk hg hm hk pa hdb he hst, fun W σ ρ F H Q i R p => q W σ ρ F H _ i R (p.bind.imp fun xs ρ1 F1 H1 s1 p vs R1 r1 => ?_)⟩
  have hdv' : ∀ F, Reps W.K W.adr F dl dv := by rw [i.k, i.a]; exact hdv
  have h := callF_sp R1 (r1.dflt hdv') p
  rw [i.k, i.a] at h
  exact h
/-- a method of data -/
def xM (c : Nat) (f : Fn) (dl : List D) (mo : M D) (ms : M (List Ar)) : M Slot := fun ρ => (mo ρ).bind fun d ρ1 => match d with
  | .obj c' l => if c' = c then (ms ρ1).bind fun xs ρ2 => callF f (.d (.obj c l) :: xs ++ dl.map .d) ρ2 else .bad
  | _ => .bad
theorem lookup_none {α : Type} {n : Str} : ∀ {l : List (Str × α)}, (l.map (·.1)).contains n = false → l.lookup n = none
  | [], _ => rfl
  | (x, v) :: l, h => by
    simp only [List.map_cons, List.contains_cons, Bool.or_eq_false_iff] at h
    rw [List.lookup, h.1]
    exact lookup_none h.2
theorem dx_meth {pl : Sem Bool} (c : Nat) {mf : Fn} {dl : List D} {mo : M D} {ms : M (List Ar)} (G : FnI cxm X adr k f mf dl) (hr : Room k X.A) (tk : TK cxm X Wx) (hc : Cls X.K (adr c)) (hm : Meth X.K (adr c) m f) (ho : DE X adr Wx o mo) (ha : DAr X adr Wx (e :: es) ms)
    (hn : (clsNames c).contains m = false := by decide +kernel) (hst : starEach (e :: es) X.env = (false, eval e X.env) :: starEach es X.env := by rfl) (hpl : (backTo pos (starEach es X.env)).any (·.1) = false := by rfl)
    (ht : eval (.Call (.Attribute o m apos) (e :: es) [] pos) X.env = (do
      let ov ← eval o X.env
      standAt apos.atName
      let (f, first) ← holding [ov] (getMethod ov m pl)
      callWith pos f first (backTo pos (starEach (e :: es) X.env)) (backToKw pos (keywordEach [] X.env))) := by rfl) :
    DX X adr Wx (.Call (.Attribute o m apos) (e :: es) [] pos) (xM c mf dl mo ms) := by
  obtain ⟨dv, hdv, F⟩ := G.ok
  obtain ⟨to, po, qo⟩ := ho
  obtain ⟨t, pa, q⟩ := ha
  refine ⟨_, pe_methD F hr tk hc hm po pa hst hpl ht, fun W σ ρ F H Q i R p => qo W σ ρ F H _ i R (p.bind.imp fun d ρ1 F1 H1 s1 p v R1 r1 => ?_)⟩
  cases d with
  | obj c' l =>
    by_cases hcc : c' = c
    · subst hcc
      simp only [if_true] at p
      obtain ⟨a, dx, fvs, rfl, h1, h2, h3⟩ := id r1
      rw [i.a] at h1
      refine ⟨a, dx, fvs, rfl, R1.sub _ _ h1, lookup_none (by rw [h2]; exact hn), q W σ ρ1 F1 H1 _ i R1 (p.bind.imp fun xs ρ2 F2 H2 s2 p vs R2 r2 => ?_)⟩
      have hdv' : ∀ F, Reps W.K W.adr F dl dv := by rw [i.k, i.a]; exact hdv
      have r3 : ArRep W σ F2 (.d (.obj c' l) :: xs) (.ref a :: vs) := ⟨_, _, rfl, Rep.mono s2 _ _ r1, r2⟩
      have h := callF_sp R2 (r3.dflt hdv') p
      rw [i.k, i.a] at h
      exact h
    · simp only [if_neg hcc] at p; exact p.elim
  | _ => exact p.elim
theorem dx_meth0 {pl : Sem Bool} (c : Nat) {mf : Fn} {dl : List D} {mo : M D} (G : FnI cxm X adr k f mf dl) (hr : Room k X.A) (tk : TK cxm X Wx) (hc : Cls X.K (adr c)) (hm : Meth X.K (adr c) m f) (ho : DE X adr Wx o mo)
    (hn : (clsNames c).contains m = false := by decide +kernel)
    (ht : eval (.Call (.Attribute o m apos) [] [] pos) X.env = (do
      let ov ← eval o X.env
      standAt apos.atName
      let (f, first) ← holding [ov] (getMethod ov m pl)
      callWith pos f first (backTo pos (starEach [] X.env)) (backToKw pos (keywordEach [] X.env))) := by rfl) :
    DX X adr Wx (.Call (.Attribute o m apos) [] [] pos) (xM c mf dl mo rNil) := by
  obtain ⟨dv, hdv, F⟩ := G.ok
  obtain ⟨to, po, qo⟩ := ho
  refine ⟨_, pe_meth0D F hr tk hc hm po ht, fun W σ ρ F H Q i R p => qo W σ ρ F H _ i R (p.bind.imp fun d ρ1 F1 H1 s1 p v R1 r1 => ?_)⟩
  cases d with
  | obj c' l =>
    by_cases hcc : c' = c
    · subst hcc
      simp only [if_true, rNil, Res.bind_ok] at p
      obtain ⟨a, dx, fvs, rfl, h1, h2, h3⟩ := id r1
      rw [i.a] at h1
      refine ⟨a, dx, fvs, rfl, R1.sub _ _ h1, lookup_none (by rw [h2]; exact hn), ?_⟩
      have hdv' : ∀ F, Reps W.K W.adr F dl dv := by rw [i.k, i.a]; exact hdv
      have r3 : ArRep W σ F1 [.d (.obj c' l)] [.ref a] := ⟨_, _, rfl, r1, rfl⟩
      have h := callF_sp R1 (r3.dflt hdv') p
      rw [i.k, i.a] at h
      exact h
    · simp only [if_neg hcc] at p; exact p.elim
  | _ => exact p.elim
/-- a method of a thing that the def owns or may change -/
def fsOf : Slot → Option (Nat × List (Str × D))
  | .own (.obj c fs) => some (c, fs)
  | .io (.obj c fs) => some (c, fs)
  | _ => none
def xMi (c : Nat) (m : Str) (f : Fn) (dl : List D) (i : Nat) (ms : M (List Ar)) : M Slot := fun ρ => match (ρ[i]?).bind fsOf with
  | some (c', fs) => if c' = c ∧ (fs.map (·.1)).contains m = false then (ms ρ).bind fun xs ρ2 => callF f (.io i :: xs ++ dl.map .d) ρ2 else .bad
  | none => .bad
theorem slot_obj {W : Wd} {σ : List (Option V)} {ρ : List Slot} {F H : Hp} {i c : Nat} {fs : List (Str × D)} (R : ERel W σ ρ F H) (h : (ρ[i]?).bind fsOf = some (c, fs)) : ∃ a dx fv, σ[i]? = some (some (.ref a)) ∧ H a = some (.ins (W.adr c) dx fv) ∧ fv.map (·.1) = fs.map (·.1) ∧ Reps W.K W.adr F (fs.map (·.2)) (fv.map (·.2)) := by
  obtain ⟨w, R⟩ := R
  cases e : ρ[i]? with
  | none => rw [e] at h; cases h
  | some s =>
    rw [e] at h
    have h' : fsOf s = some (c, fs) := h
    obtain ⟨ov, h1, h2⟩ := R.slots i s e
    cases s with
    | no => cases h'
    | hnd c d => cases h'
    | frz d => cases h'
    | own o =>
      cases o <;> first | (cases h'; done) | skip
      cases h'
      obtain ⟨a, rfl, _, dx, fv, z1, z2, z3⟩ := h2
      exact ⟨a, dx, fv, h1, z1, z2, z3⟩
    | io o =>
      cases o <;> first | (cases h'; done) | skip
      cases h'
      obtain ⟨a, rfl, _, dx, fv, z1, z2, z3⟩ := h2
      exact ⟨a, dx, fv, h1, z1, z2, z3⟩
theorem dx_methI {pl : Sem Bool} (c i : Nat) {y : Str} {yp : Pos} {mf : Fn} {dl : List D} {ms : M (List Ar)} (G : FnI cxm X adr k f mf dl) (hr : Room k X.A) (tk : TK cxm X Wx) (hc : Cls X.K (adr c)) (hm : Meth X.K (adr c) m f) (ha : DAr X adr Wx (e :: es) ms)
    (hN : X.N[i]? = some y := by rfl) (hv : Vis X.env.scope y := by first | exact Or.inl rfl | exact Or.inr (Or.inl rfl) | exact Or.inr (Or.inr rfl)) (hd : (y == ("__debug__" : Str)) = false := by decide)
    (hcd : (y == ("__classdict__" : Str)) = false := by decide) (hst : starEach (e :: es) X.env = (false, eval e X.env) :: starEach es X.env := by rfl) (hpl : (backTo pos (starEach es X.env)).any (·.1) = false := by rfl)
    (ht : eval (.Call (.Attribute (.Name y yp) m apos) (e :: es) [] pos) X.env = (do
      let ov ← eval (.Name y yp) X.env
      standAt apos.atName
      let (f, first) ← holding [ov] (getMethod ov m pl)
      callWith pos f first (backTo pos (starEach (e :: es) X.env)) (backToKw pos (keywordEach [] X.env))) := by rfl) :
    DX X adr Wx (.Call (.Attribute (.Name y yp) m apos) (e :: es) [] pos) (xMi c m mf dl i ms) := by
  obtain ⟨dv, hdv, F⟩ := G.ok
  obtain ⟨t, pa, q⟩ := ha
  refine ⟨_, pe_methD F hr tk hc hm (pe_var hN hv hd hcd) pa hst hpl ht, fun W σ ρ F H Q i' R p => ?_⟩
  unfold xMi at p
  cases ef : (ρ[i]?).bind fsOf with
  | none => rw [ef] at p; exact p.elim
  | some z =>
    obtain ⟨c', fs⟩ := z
    rw [ef] at p
    by_cases hcc : c' = c ∧ (fs.map (·.1)).contains m = false
    · simp only [if_pos hcc] at p
      obtain ⟨rfl, hno⟩ := hcc
      obtain ⟨a, dx, fv, h1, h2, h3, h4⟩ := slot_obj R ef
      rw [i'.a] at h2
      refine ⟨_, h1, a, dx, fv, rfl, h2, lookup_none (by rw [h3]; exact hno), q W σ ρ F H _ i' R (p.bind.imp fun xs ρ2 F2 H2 s2 p vs R2 r2 => ?_)⟩
      have hdv' : ∀ F, Reps W.K W.adr F dl dv := by rw [i'.k, i'.a]; exact hdv
      have r3 : ArRep W σ F2 (.io i :: xs) (.ref a :: vs) := ⟨_, _, rfl, h1, r2⟩
      have h := callF_sp R2 (r3.dflt hdv') p
      rw [i'.k, i'.a] at h
      exact h
    · simp only [if_neg hcc] at p; exact p.elim
theorem dx_methI0 {pl : Sem Bool} (c i : Nat) {y : Str} {yp : Pos} {mf : Fn} {dl : List D} (G : FnI cxm X adr k f mf dl) (hr : Room k X.A) (tk : TK cxm X Wx) (hc : Cls X.K (adr c)) (hm : Meth X.K (adr c) m f)
    (hN : X.N[i]? = some y := by rfl) (hv : Vis X.env.scope y := by first | exact Or.inl rfl | exact Or.inr (Or.inl rfl) | exact Or.inr (Or.inr rfl)) (hd : (y == ("__debug__" : Str)) = false := by decide)
    (hcd : (y == ("__classdict__" : Str)) = false := by decide)
    (ht : eval (.Call (.Attribute (.Name y yp) m apos) [] [] pos) X.env = (do
      let ov ← eval (.Name y yp) X.env
      standAt apos.atName
      let (f, first) ← holding [ov] (getMethod ov m pl)
      callWith pos f first (backTo pos (starEach [] X.env)) (backToKw pos (keywordEach [] X.env))) := by rfl) :
    DX X adr Wx (.Call (.Attribute (.Name y yp) m apos) [] [] pos) (xMi c m mf dl i rNil) := by
  obtain ⟨dv, hdv, F⟩ := G.ok
  refine ⟨_, pe_meth0D F hr tk hc hm (pe_var hN hv hd hcd) ht, fun W σ ρ F H Q i' R p => ?_⟩
  unfold xMi at p
  cases ef : (ρ[i]?).bind fsOf with
  | none => rw [ef] at p; exact p.elim
  | some z =>
    obtain ⟨c', fs⟩ := z
    rw [ef] at p
    by_cases hcc : c' = c ∧ (fs.map (·.1)).contains m = false
    · simp only [if_pos hcc, rNil, Res.bind_ok] at p
      obtain ⟨rfl, hno⟩ := hcc
      obtain ⟨a, dx, fv, h1, h2, h3, h4⟩ := slot_obj R ef
      rw [i'.a] at h2
      refine ⟨_, h1, a, dx, fv, rfl, h2, lookup_none (by rw [h3]; exact hno), ?_⟩
      have hdv' : ∀ F, Reps W.K W.adr F dl dv := by rw [i'.k, i'.a]; exact hdv
      have r3 : ArRep W σ F [.io i] [.ref a] := ⟨_, _, rfl, h1, rfl⟩
      have h := callF_sp R (r3.dflt hdv') p
      rw [i'.k, i'.a] at h
      exact h
    · simp only [if_neg hcc] at p; exact p.elim
/-! ### C(..) -/
theorem ERel.newObj {W : Wd} {σ : List (Option V)} {ρ : List Slot} {F H : Hp} (R : ERel W σ ρ F H) {c : Nat} {x dx : Addr} (hx : H x = none) (hdx : H dx = none) (hne : dx ≠ x) : ERel W (σ ++ [some (.ref x)]) (ρ ++ [.own (.obj c [])]) F (upd (upd H dx (.own x)) x (.ins (W.adr c) dx [])) := by
  obtain ⟨w, R⟩ := R
  have hx2 : upd H dx (.own x) x = none := by rw [upd_ne (Ne.symm hne)]; exact hx
  have R2 := (R.litter (o := .own x) hdx).litter (p := x) (o := .ins (W.adr c) dx []) hx2
  have hF := R.free hx
  have h0 : W.H0 x = none := by
    cases q : W.H0 x with
    | none => rfl
    | some u => exact absurd hx (R.alive x (by rw [q]; exact fun z => nomatch z))
  refine ⟨fun a => if a = x then some ρ.length else w a, R2.pushOwn (fun a i e => ?_) (fun a i e => ?_) ⟨if_pos rfl, dx, [], upd_same, rfl, rfl⟩⟩
  · rw [if_neg (fun q => by subst q; exact (R.owned a i e).2.1 hx)]; exact e
  · by_cases ha : a = x
    · subst ha
      rw [if_pos rfl] at e
      refine .inr ⟨(Option.some.inj e).symm, hF, (by rw [upd_same]; exact Option.some_ne_none _), h0, ?_⟩
      cases q : W.G a with
      | none => rfl
      | some u => rw [(R.guard a u q).1] at hx; cases hx
    · rw [if_neg ha] at e; exact .inl e
/-- the new thing as its class's __init__ leaves it -/
def makeF (c : Nat) (f : Fn) (xs : List Ar) : M Slot := fun ρ => match callF f (.io ρ.length :: xs) (ρ ++ [.own (.obj c [])]) with
  | .bad => .bad
  | .ok s ρ' => (match s, ρ'.getLast? with | .frz .non, some (.own o) => .ok (.own o) ρ'.dropLast | _, _ => .bad)
  | .exc c d ρ' => (match ρ'.getLast? with | some (.own _) => .exc c d ρ'.dropLast | _ => .bad)
def xK (c : Nat) (f : Fn) (dl : List D) (ms : M (List Ar)) : M Slot := fun ρ => (ms ρ).bind fun xs ρ1 => makeF c f (xs ++ dl.map .d) ρ1
theorem split_last {α : Type} {l : List α} {x : α} (h : l.getLast? = some x) : l = l.dropLast ++ [x] := by
  have hne : l ≠ [] := fun z => by subst z; cases h
  rw [List.getLast?_eq_getLast hne] at h
  have := List.dropLast_concat_getLast hne
  rw [← Option.some.inj h]; exact this.symm
theorem ArRep.more {W : Wd} {σ τ : List (Option V)} {F : Hp} : ∀ {l : List Ar} {vs : List V}, ArRep W σ F l vs → ArRep W (σ ++ τ) F l vs
  | [], _, h => h
  | .d x :: l, _, ⟨v, r, e, h1, h2⟩ => ⟨v, r, e, h1, ArRep.more h2⟩
  | .io i :: l, _, ⟨v, r, e, h1, h2⟩ => ⟨v, r, e, by rw [List.getElem?_append_left (List.getElem?_eq_some_iff.mp h1).1]; exact h1, ArRep.more h2⟩
theorem ERel.popAny {W : Wd} {σ : List (Option V)} {ρ : List Slot} {F H : Hp} {v : Option V} {s : Slot} (R : ERel W (σ ++ [v]) (ρ ++ [s]) F H) (hs : ¬ isIo s) : ERel W σ ρ F H := by
  obtain ⟨w, R⟩ := R
  refine ⟨_, R.pop fun p hp => ?_⟩
  obtain ⟨_, o, h2⟩ := R.fix p hp
  have h3 := (List.getElem?_eq_some_iff.mp h2).1
  rw [List.length_append] at h3
  simp at h3
  rcases Nat.lt_or_eq_of_le (Nat.le_of_lt_succ h3) with h4 | h4
  · exact h4
  · rw [h4, List.getElem?_append_right (Nat.le_refl _)] at h2
    simp at h2
    subst h2
    exact absurd trivial hs
theorem dx_make (c : Nat) {mf : Fn} {dl : List D} {ms : M (List Ar)} (G : FnI cxm X adr k f mf dl) (Mk' : Mk X.K (adr c) f) (hr : Room (k + 1) X.A) (tk : TK cxm X Wx) (hm : X.mg x = some (.ref (adr c))) (ha : DAr X adr Wx (e :: es) ms) (hg : Gl X x := by rfl)
    (hdb : (x == ("__debug__" : Str)) = false := by decide) (he : starEach (e :: es) X.env = (false, eval e X.env) :: starEach es X.env := by rfl) (hpl : (backTo pos (starEach es X.env)).any (·.1) = false := by rfl) :
    DX X adr Wx (.Call (.Name x p) (e :: es) [] pos) (xK c mf dl ms) := by
  obtain ⟨dv, hdv, F⟩ := G.ok
  obtain ⟨t, pa, q⟩ := ha
  refine ⟨_, pe_makeD Mk' F hr tk hg hm pa hdb he hpl, fun W σ ρ F H Q i R p => q W σ ρ F H _ i R (p.bind.imp fun xs ρ1 F1 H1 s1 p vs R1 r1 => fun x dx hx hdx hne => ?_)⟩
  have hdv' : ∀ F, Reps W.K W.adr F dl dv := by rw [i.k, i.a]; exact hdv
  have R2 := R1.newObj (c := c) hx hdx hne
  have hl := R1.len
  have r3 : ArRep W (σ ++ [some (.ref x)]) F1 (.io ρ1.length :: xs ++ dl.map .d) (.ref x :: vs ++ dv) :=
    ⟨_, _, rfl, by rw [← hl, List.getElem?_append_right (Nat.le_refl _)]; simp, (ArRep.more r1).append (ArRep.ofReps (hdv' F1))⟩
  unfold makeF at p
  have el : (Ar.io ρ1.length :: xs ++ dl.map .d) = .io ρ1.length :: (xs ++ dl.map .d) := rfl
  have h := callF_sp2 (E := fun cls dx H => Wx cls dx σ H) (Q := fun v H2 => v = .non ∧ Q (.ref x) H2) (f := mf) R2 r3 (fun z => ?_) (fun s ρ' e F' H' s' v R' g1 g2 => ?_) (fun c' d ρ' e cls dx' F' H' s' R' hx' => ?_)
  · rw [i.k, i.a] at h
    exact h
  · rw [el] at z; rw [z] at p; exact p
  · rw [el] at e; rw [e] at p
    simp only at p
    cases s with
    | frz d =>
      cases d with
      | non =>
        cases e2 : ρ'.getLast? with
        | none => rw [e2] at p; exact p.elim
        | some o =>
          rw [e2] at p
          cases o with
          | own o =>
            have ev : v = .non := by
              obtain ⟨w, R'⟩ := R'
              have hl2 : (σ ++ [some (V.ref x)]).length = ρ'.length := ERel.len2 ⟨w, R'⟩
              obtain ⟨ov, z1, u, z2, z3⟩ := R'.slots ρ'.length (.frz .non) (by rw [List.getElem?_append_right (Nat.le_refl _)]; simp)
              rw [← hl2, List.getElem?_append_right (Nat.le_refl _)] at z1
              simp at z1
              subst z1
              cases z2
              exact z3
            refine ⟨ev, ?_⟩
            have R3 := R'.popAny (fun z => z)
            have es := split_last e2
            rw [es] at R3
            exact p F' H' s' _ R3 (fun z => z) (fun z => nomatch z)
          | no => exact p.elim
          | hnd _ _ => exact p.elim
          | frz _ => exact p.elim
          | io _ => exact p.elim
      | _ => exact p.elim
    | _ => exact p.elim
  · rw [el] at e; rw [e] at p
    simp only at p
    cases e2 : ρ'.getLast? with
    | none => rw [e2] at p; exact p.elim
    | some o =>
      rw [e2] at p
      cases o with
      | own o =>
        have es := split_last e2
        rw [es] at R'
        exact p σ cls dx' F' H' s' (R'.popAny (fun z => z)) hx'
      | no => exact p.elim
      | hnd _ _ => exact p.elim
      | frz _ => exact p.elim
      | io _ => exact p.elim
end
end DL

set_option maxHeartbeats 4000000
/-! DL9: list comprehensions. -/
namespace DL
open PySem L2 PyProof.Rows

abbrev Wx0 : WX := fun _ _ _ _ => False
/-! ### a list that grows, kept aside -/
def Wd.gd (W : Wd) (D : Addr) (acc : List V) : Wd := { W with G := upd W.G D (.lst acc) }
section
variable {W : Wd} {w : Own} {σ : List (Option V)} {ρ : List Slot} {F H : Hp} {B : Addr} {acc acc' : List V}
theorem WRel.noG (R : WRel W w σ ρ F H) (hD : H B = none) : W.G B = none ∧ W.H0 B = none ∧ w B = none := by
  refine ⟨?_, ?_, ?_⟩
  · cases q : W.G B with
    | none => rfl
    | some u => rw [(R.guard B u q).1] at hD; cases hD
  · cases q : W.H0 B with
    | none => rfl
    | some u => exact absurd hD (R.alive B (by rw [q]; exact fun z => nomatch z))
  · cases q : w B with
    | none => rfl
    | some u => exact absurd hD (R.owned B u q).2.1
theorem ERel.guarded (R : ERel W σ ρ F H) (hD : H B = none) : ERel (W.gd B acc) σ ρ F (upd H B (.lst acc)) := by
  obtain ⟨w, R⟩ := R
  have R' := R.litter (o := .lst acc) hD
  refine ⟨w, R'.len, R'.sub, R'.alive, R'.old, R'.keep, R'.fix, R'.owned, fun a o e => ?_, R'.slots⟩
  by_cases ha : a = B
  · subst ha
    have e : upd W.G a (.lst acc) a = some o := e
    rw [upd_same] at e
    cases e
    exact ⟨upd_same, R.free hD, (R.noG hD).2.2⟩
  · have e : upd W.G B (.lst acc) a = some o := e
    rw [upd_ne ha] at e
    exact R'.guard a o e
theorem gd_at (R : ERel (W.gd B acc) σ ρ F H) : H B = some (.lst acc) := by
  obtain ⟨w, R⟩ := R
  exact (R.guard B (.lst acc) upd_same).1
theorem ERel.unguard (R : ERel (W.gd B acc) σ ρ F H) (hG : W.G B = none) : ERel W σ ρ F H := by
  obtain ⟨w, R⟩ := R
  refine ⟨w, R.len, R.sub, R.alive, R.old, R.keep, R.fix, R.owned, fun a o e => R.guard a o ?_, R.slots⟩
  show upd W.G B (.lst acc) a = some o
  rw [upd_ne (fun q => by subst q; rw [hG] at e; cases e)]
  exact e
/-- the kept list changes -/
theorem ERel.regd (R : ERel (W.gd B acc) σ ρ F H) (h0 : W.H0 B = none) : ERel (W.gd B acc') σ ρ F (upd H B (.lst acc')) := by
  obtain ⟨w, R⟩ := R
  obtain ⟨g1, g2, g3⟩ := R.guard B (.lst acc) upd_same
  refine ⟨w, R.len, fun a o e => ?_, fun a z => ?_, R.old, fun a o e z => ?_, R.fix, fun a i e => ?_, fun a o e => ?_, fun i s e => ?_⟩
  · rw [upd_ne (fun q => by subst q; rw [g2] at e; cases e)]; exact R.sub a o e
  · by_cases ha : a = B
    · subst ha; rw [upd_same]; exact fun z => nomatch z
    · rw [upd_ne ha]; exact R.alive a z
  · have e' : W.H0 a = some o := e
    rw [upd_ne (fun q => by subst q; rw [h0] at e'; cases e')]; exact R.keep a o e z
  · obtain ⟨h1, h2, h3⟩ := R.owned a i e
    rw [upd_ne (fun q => by subst q; rw [g3] at e; cases e)]
    exact ⟨h1, h2, h3⟩
  · by_cases ha : a = B
    · subst ha
      have e : upd W.G a (.lst acc') a = some o := e
      rw [upd_same] at e
      cases e
      exact ⟨upd_same, g2, g3⟩
    · have e : upd W.G B (.lst acc') a = some o := e
      rw [upd_ne ha] at e
      rw [upd_ne ha]
      exact R.guard a o (by show upd W.G B (.lst acc) a = some o; rw [upd_ne ha]; exact e)
  · obtain ⟨ov, h1, h2⟩ := R.slots i s e
    refine ⟨ov, h1, h2.stay (Same.refl _) fun a z => ⟨z, fun o q => ?_⟩⟩
    rw [upd_ne (fun q => by subst q; rw [g3] at z; cases z)]; exact q
/-- the kept list becomes the def's own -/
theorem ERel.ungd {l : List D} (R : ERel (W.gd B acc) σ ρ F H) (h0 : W.H0 B = none) (hG : W.G B = none) (r : Reps W.K W.adr F l acc) : ERel W (σ ++ [some (.ref B)]) (ρ ++ [.own (.lst l)]) F H := by
  have R2 := R.unguard hG
  obtain ⟨w, R⟩ := R
  obtain ⟨g1, g2, g3⟩ := R.guard B (.lst acc) upd_same
  have R3 : WRel W w σ ρ F H := by
    refine ⟨R.len, R.sub, R.alive, R.old, R.keep, R.fix, R.owned, fun a o e => R.guard a o ?_, R.slots⟩
    show upd W.G B (.lst acc) a = some o
    rw [upd_ne (fun q => by subst q; rw [hG] at e; cases e)]
    exact e
  refine ⟨fun a => if a = B then some ρ.length else w a, R3.pushOwn (fun a i e => ?_) (fun a i e => ?_) ⟨if_pos rfl, acc, g1, r⟩⟩
  · rw [if_neg (fun q => by subst q; rw [g3] at e; cases e)]; exact e
  · by_cases ha : a = B
    · subst ha
      rw [if_pos rfl] at e
      exact .inr ⟨(Option.some.inj e).symm, g2, (by rw [g1]; exact fun z => nomatch z), h0, hG⟩
    · rw [if_neg ha] at e; exact .inl e
end
/-! ### the block's own names -/
def wipeS (ρ : List Slot) : List Nat → List Slot
  | [] => ρ
  | v :: vs => (wipeS ρ vs).set v .no
def noIo (ρ : List Slot) (vs : List Nat) : Bool := vs.all fun v => match ρ[v]? with | some (.io _) => false | some (.hnd _ _) => false | _ => true
/-- behind the block: what a shared name held -/
def restS (ρ ρ' : List Slot) : List Nat → List Slot
  | [] => ρ'
  | v :: vs => (restS ρ ρ' vs).set v (match ρ[v]? with | some (.frz d) => .frz d | _ => .no)
theorem wipeS_length (ρ : List Slot) : ∀ vs, (wipeS ρ vs).length = ρ.length
  | [] => rfl
  | v :: vs => by unfold wipeS; rw [List.length_set, wipeS_length ρ vs]
theorem restS_length (ρ ρ' : List Slot) : ∀ vs, (restS ρ ρ' vs).length = ρ'.length
  | [] => rfl
  | v :: vs => by unfold restS; rw [List.length_set, restS_length ρ ρ' vs]
theorem wipe_get (σ : List (Option V)) {i : Nat} : ∀ {vs : List Nat}, i ∉ vs → (L2.wipe σ vs)[i]? = σ[i]?
  | [], _ => rfl
  | v :: vs, h => by
    simp only [List.mem_cons, not_or] at h
    unfold L2.wipe
    rw [List.getElem?_set_ne (Ne.symm h.1)]
    exact wipe_get σ h.2
theorem wipeS_get (ρ : List Slot) {i : Nat} : ∀ {vs : List Nat}, i ∉ vs → (wipeS ρ vs)[i]? = ρ[i]?
  | [], _ => rfl
  | v :: vs, h => by
    simp only [List.mem_cons, not_or] at h
    unfold wipeS
    rw [List.getElem?_set_ne (Ne.symm h.1)]
    exact wipeS_get ρ h.2
theorem wipeS_in (ρ : List Slot) {i : Nat} {s : Slot} : ∀ {vs : List Nat}, i ∈ vs → (wipeS ρ vs)[i]? = some s → s = .no
  | [], h, _ => by cases h
  | v :: vs, h, e => by
    unfold wipeS at e
    by_cases hv : v = i
    · subst hv
      by_cases hl : v < (wipeS ρ vs).length
      · rw [List.getElem?_set_self hl] at e; cases e; rfl
      · rw [List.getElem?_eq_none (by simpa using hl)] at e; cases e
    · rw [List.getElem?_set_ne hv] at e
      rcases List.mem_cons.mp h with h | h
      · exact absurd h.symm hv
      · exact wipeS_in ρ h e
theorem restS_get (ρ ρ' : List Slot) {i : Nat} : ∀ {vs : List Nat}, i ∉ vs → (restS ρ ρ' vs)[i]? = ρ'[i]?
  | [], _ => rfl
  | v :: vs, h => by
    simp only [List.mem_cons, not_or] at h
    unfold restS
    rw [List.getElem?_set_ne (Ne.symm h.1)]
    exact restS_get ρ ρ' h.2
theorem restS_in (ρ ρ' : List Slot) {i : Nat} {s : Slot} : ∀ {vs : List Nat}, i ∈ vs → (restS ρ ρ' vs)[i]? = some s → s = .no ∨ ∃ d, s = .frz d ∧ ρ[i]? = some (.frz d)
  | [], h, _ => by cases h
  | v :: vs, h, e => by
    unfold restS at e
    by_cases hv : v = i
    · subst hv
      by_cases hl : v < (restS ρ ρ' vs).length
      · rw [List.getElem?_set_self hl] at e
        cases e
        cases q : ρ[v]? with
        | none => exact .inl rfl
        | some s =>
          cases s with
          | frz d => exact .inr ⟨d, rfl, rfl⟩
          | _ => exact .inl rfl
      · rw [List.getElem?_eq_none (by simpa using hl)] at e; cases e
    · rw [List.getElem?_set_ne hv] at e
      rcases List.mem_cons.mp h with h | h
      · exact absurd h.symm hv
      · exact restS_in ρ ρ' h e
section
variable {W : Wd} {σ σ' : List (Option V)} {ρ ρ' : List Slot} {F F' H H' : Hp} {vs : List Nat}
theorem not_io {v : Nat} {o : O} (h : noIo ρ vs = true) (hv : v ∈ vs) : ρ[v]? ≠ some (.io o) := fun e => by
  have := List.all_eq_true.mp h v hv
  rw [e] at this
  cases this
theorem not_hnd {v c : Nat} {d : D} (h : noIo ρ vs = true) (hv : v ∈ vs) : ρ[v]? ≠ some (.hnd c d) := fun e => by
  have := List.all_eq_true.mp h v hv
  rw [e] at this
  cases this
/-- the block's start -/
theorem ERel.wipe (R : ERel W σ ρ F H) (h : noIo ρ vs = true) : ERel W (L2.wipe σ vs) (wipeS ρ vs) F H := by
  obtain ⟨w, R⟩ := R
  refine ⟨w, by rw [wipe_length, wipeS_length]; exact R.len, R.sub, R.alive, R.old, R.keep, fun p hp => ?_, fun a i e => ?_, R.guard, fun i s e => ?_⟩
  · obtain ⟨g1, o, g2⟩ := R.fix p hp
    have hn : p.1 ∉ vs := fun z => not_io h z g2
    exact ⟨by rw [wipe_get σ hn]; exact g1, o, by rw [wipeS_get ρ hn]; exact g2⟩
  · obtain ⟨h1, h2, h3⟩ := R.owned a i e
    refine ⟨h1, h2, h3.imp id fun ⟨z, s, e1, e2⟩ => ?_⟩
    cases s with
    | io o => exact ⟨z, _, by rw [wipeS_get ρ (fun z => not_io h z e1)]; exact e1, e2⟩
    | hnd c d => exact ⟨z, _, by rw [wipeS_get ρ (fun z => not_hnd h z e1)]; exact e1, e2⟩
    | no => exact e2.elim
    | frz d => exact e2.elim
    | own o => exact e2.elim
  · by_cases hi : i ∈ vs
    · cases wipeS_in ρ hi e
      have hl : i < (L2.wipe σ vs).length := by
        have := (List.getElem?_eq_some_iff.mp e).1
        rw [wipeS_length] at this
        rw [wipe_length, R.len]; exact this
      exact ⟨_, List.getElem?_eq_getElem hl, trivial⟩
    · rw [wipeS_get ρ hi] at e
      obtain ⟨ov, h1, h2⟩ := R.slots i s e
      exact ⟨ov, by rw [wipe_get σ hi]; exact h1, h2⟩
/-- its end -/
theorem ERel.rest {W0 : Wd} (hK : W0.K = W.K) (hA : W0.adr = W.adr) (R : ERel W0 σ ρ F H) (sF : Same F F') (R' : ERel W (L2.wipe σ vs) ρ' F' H') : ERel W σ (restS ρ ρ' vs) F' H' := by
  obtain ⟨w0, R⟩ := R
  obtain ⟨w, R'⟩ := R'
  have io_out : ∀ (i : Nat) (o : O), ρ'[i]? = some (.io o) → i ∉ vs := fun i o e z => by
    obtain ⟨ov, h1, p, h2, _⟩ := R'.slots i _ e
    subst h2
    exact (wipe_some h1).2 z
  have hnd_out : ∀ (i c : Nat) (d : D), ρ'[i]? = some (.hnd c d) → i ∉ vs := fun i c d e z => by
    obtain ⟨ov, h1, a, x, v, h2, _⟩ := R'.slots i _ e
    subst h2
    exact (wipe_some h1).2 z
  refine ⟨w, by rw [restS_length, R'.len.symm, wipe_length], R'.sub, R'.alive, R'.old, R'.keep, fun p hp => ?_, fun a i e => ?_, R'.guard, fun i s e => ?_⟩
  · obtain ⟨g1, o, g2⟩ := R'.fix p hp
    have hn := io_out _ _ g2
    exact ⟨by rw [wipe_get σ hn] at g1; exact g1, o, by rw [restS_get ρ ρ' hn]; exact g2⟩
  · obtain ⟨h1, h2, h3⟩ := R'.owned a i e
    refine ⟨h1, h2, h3.imp id fun ⟨z, s, e1, e2⟩ => ?_⟩
    cases s with
    | io o => exact ⟨z, _, by rw [restS_get ρ ρ' (io_out _ _ e1)]; exact e1, e2⟩
    | hnd c d => exact ⟨z, _, by rw [restS_get ρ ρ' (hnd_out _ _ _ e1)]; exact e1, e2⟩
    | no => exact e2.elim
    | frz d => exact e2.elim
    | own o => exact e2.elim
  · by_cases hi : i ∈ vs
    · rcases restS_in ρ ρ' hi e with rfl | ⟨d, rfl, e2⟩
      · have hl : i < σ.length := by
          have := (List.getElem?_eq_some_iff.mp e).1
          rw [restS_length, ← R'.len, wipe_length] at this
          exact this
        exact ⟨_, List.getElem?_eq_getElem hl, trivial⟩
      · obtain ⟨ov, h1, v, h2, h3⟩ := R.slots i _ e2
        exact ⟨ov, h1, v, h2, by rw [← hK, ← hA]; exact Rep.mono sF _ _ h3⟩
    · rw [restS_get ρ ρ' hi] at e
      obtain ⟨ov, h1, h2⟩ := R'.slots i s e
      exact ⟨ov, by rw [wipe_get σ hi] at h1; exact h1, h2⟩
/-- a turn's end: the block's names forgotten again -/
theorem ERel.rewipe (R : ERel W σ' ρ F H) (e : L2.wipe σ' vs = L2.wipe σ vs) (h : noIo ρ vs = true) : ERel W (L2.wipe σ vs) (wipeS ρ vs) F H := by
  rw [← e]; exact R.wipe h
end
/-! ### targets in a block -/
def DGw (X : Cx) (adr : AdrT) (vs : List Nat) (e : Expr) (g : Tg) : Prop := ∃ t, PG X e t ∧ ∀ W σ ρ ρ' F H Q d v, In X adr W → ERel W σ ρ F H → Rep W.K W.adr F d v → g d ρ = some ρ' → (∀ σ', ERel W σ' ρ' F H → L2.wipe σ' vs = L2.wipe σ vs → Q σ' H) → t v σ H Q
def DGsw (X : Cx) (adr : AdrT) (vs : List Nat) (es : List Expr) (g : List D → List Slot → Option (List Slot)) : Prop := ∃ t, PGs X es t ∧ ∀ W σ ρ ρ' F H Q l us, In X adr W → ERel W σ ρ F H → Reps W.K W.adr F l us → g l ρ = some ρ' → (∀ σ', ERel W σ' ρ' F H → L2.wipe σ' vs = L2.wipe σ vs → Q σ' H) → t us σ H Q
theorem wipe_wipe (σ : List (Option V)) (vs : List Nat) : L2.wipe (L2.wipe σ vs) vs = L2.wipe σ vs := by
  apply List.ext_getElem?
  intro k
  by_cases hk : k ∈ vs
  · have key : ∀ τ : List (Option V), ∀ ws : List Nat, k ∈ ws → (L2.wipe τ ws)[k]? = if k < τ.length then some none else none := by
      intro τ ws
      induction ws with
      | nil => intro h; cases h
      | cons w ws ih =>
        intro h
        unfold L2.wipe
        by_cases hw : w = k
        · subst hw
          by_cases hl : w < τ.length
          · rw [List.getElem?_set_self (by rw [wipe_length]; exact hl), if_pos hl]
          · rw [if_neg hl, List.getElem?_eq_none (by rw [List.length_set, wipe_length]; omega)]
        · rw [List.getElem?_set_ne hw]
          rcases List.mem_cons.mp h with h | h
          · exact absurd h.symm hw
          · exact ih h
    rw [key _ _ hk, key _ _ hk, wipe_length]
  · rw [wipe_get _ hk]
theorem wipe_set {σ : List (Option V)} {i : Nat} {x : Option V} : ∀ {vs : List Nat}, i ∈ vs → L2.wipe (σ.set i x) vs = L2.wipe σ vs := by
  intro vs hi
  apply List.ext_getElem?
  intro j
  by_cases hj : j ∈ vs
  · have key : ∀ τ : List (Option V), ∀ ws : List Nat, j ∈ ws → (L2.wipe τ ws)[j]? = if j < τ.length then some none else none := by
      intro τ ws
      induction ws with
      | nil => intro h; cases h
      | cons w ws ih =>
        intro h
        unfold L2.wipe
        by_cases hw : w = j
        · subst hw
          by_cases hl : w < τ.length
          · rw [List.getElem?_set_self (by rw [wipe_length]; exact hl), if_pos hl]
          · rw [if_neg hl, List.getElem?_eq_none (by rw [List.length_set, wipe_length]; omega)]
        · rw [List.getElem?_set_ne hw]
          rcases List.mem_cons.mp h with h | h
          · exact absurd h.symm hw
          · exact ih h
    rw [key _ _ hj, key _ _ hj, List.length_set]
  · rw [wipe_get _ hj, wipe_get _ hj, List.getElem?_set_ne (fun e => hj (by rw [← e]; exact hi))]
section
variable {X : Cx} {adr : AdrT} {Wx : WX} {pos : Pos} {vs : List Nat}
theorem dgw_name (i : Nat) {x : Str} (hN : X.N.Nodup) (hm : i ∈ vs := by decide) (hi : X.N[i]? = some x := by rfl) (hx : Loc X.env.scope x := by first | exact Or.inl rfl | exact Or.inr rfl) (hf : X.fn x = true ∨ X.env.scope.names.lookup x = some .local := by first | exact .inl rfl | exact .inr rfl | assumption) : DGw X adr vs (.Name x pos) (gN i) :=
  ⟨_, pg_name hN hi hx hf, fun W σ ρ ρ' F H Q d v i R r h q => q _ (R.storeD r h) (wipe_set hm)⟩
theorem dgsw_nil : DGsw X adr vs [] gNl := ⟨_, pgs_nil, fun W σ ρ ρ' F H Q l us i R r h q => by
  cases l with
  | nil => cases h; exact ⟨r, q _ R rfl⟩
  | cons _ _ => cases h⟩
theorem dgsw_cons {e : Expr} {es : List Expr} {g : Tg} {gs : List D → List Slot → Option (List Slot)} (h1 : DGw X adr vs e g) (h2 : DGsw X adr vs es gs) (hs : (assignEach (e :: es) X.env).map (·.2) = assign e X.env :: (assignEach es X.env).map (·.2) := by rfl) : DGsw X adr vs (e :: es) (gCn g gs) := by
  obtain ⟨t, p, q⟩ := h1
  obtain ⟨ts, ps, qs⟩ := h2
  refine ⟨_, pgs_cons p ps hs, fun W σ ρ ρ' F H Q l us i R r h k => ?_⟩
  cases l with
  | nil => cases h
  | cons d l =>
    obtain ⟨v, vr, e1, r1, r2⟩ := r
    have h' : (g d ρ).bind (gs l) = some ρ' := h
    cases e2 : g d ρ with
    | none => rw [e2] at h'; cases h'
    | some ρ1 =>
      rw [e2] at h'
      exact ⟨v, vr, e1, q W σ ρ ρ1 F H _ d v i R r1 e2 fun σ1 R1 w1 => qs W σ1 ρ1 ρ' F H Q l vr i R1 r2 h' fun σ2 R2 w2 => k σ2 R2 (w2.trans w1)⟩
theorem dgw_tup {es : List Expr} {k : Nat} {gs : List D → List Slot → Option (List Slot)} {n : Nat} (hc : X.calm = true) (h : DGsw X adr vs es gs) (hn : (assignEach es X.env).length = n := by rfl) (hst : (assignEach es X.env).findIdx? (·.1) = none := by rfl) : DGw X adr vs (.Tuple es k pos) (gT n gs) := by
  obtain ⟨ts, ps, qs⟩ := h
  refine ⟨_, pg_tup hc ps hn hst, fun W σ ρ ρ' F H Q d v i R r h q => ?_⟩
  unfold gT at h
  cases d <;> simp only [reduceCtorEq] at h
  split at h
  · rename_i l c
    obtain ⟨a, us, e1, e2, r2⟩ := r
    exact ⟨a, us, e1, (by rw [← i.k]; exact seqT_same R.sub e2), by rw [← r2.length]; exact c, qs W σ ρ ρ' F H Q _ us i R r2 h q⟩
  · cases h
/-! ### the same readings for all blocks -/
def cG (K : PySem.W.Frag) (adr : AdrT) (vs : List Nat) (g : Tg) : TG := fun v σ H Q => ∃ W ρ ρ' F d, W.K = K ∧ W.adr = adr ∧ ERel W σ ρ F H ∧ Rep W.K W.adr F d v ∧ g d ρ = some ρ' ∧ ∀ σ', ERel W σ' ρ' F H → L2.wipe σ' vs = L2.wipe σ vs → Q σ' H
def cE (K : PySem.W.Frag) (adr : AdrT) (m : M D) : TE := fun σ H Q => ∃ W ρ F, W.K = K ∧ W.adr = adr ∧ ERel W σ ρ F H ∧ PoD W σ F Wx0 Q (m ρ)
def cT (K : PySem.W.Frag) (adr : AdrT) (m : M Bool) : TT := fun σ H Q => ∃ W ρ F, W.K = K ∧ W.adr = adr ∧ ERel W σ ρ F H ∧ PoB W σ F Wx0 Q (m ρ)
theorem DGw.c {e : Expr} {g : Tg} (h : DGw X adr vs e g) : PG X e (cG X.K adr vs g) := by
  obtain ⟨t, p, q⟩ := h
  exact ⟨fun pins s σ H v u Q I r ⟨W, ρ, ρ', F, d, e1, e2, R, rr, eg, k⟩ => p.run pins s σ H v u Q I r (q W σ ρ ρ' F H Q d v ⟨e1, e2⟩ R rr eg k)⟩
theorem DE.c {e : Expr} {m : M D} (h : DE X adr Wx0 e m) : PE X e (cE X.K adr m) := by
  obtain ⟨t, p, q⟩ := h
  exact ⟨fun pins s σ H Q I ⟨W, ρ, F, e1, e2, R, k⟩ => p.run pins s σ H Q I (q W σ ρ F H Q ⟨e1, e2⟩ R k)⟩
def DTs (X : Cx) (adr : AdrT) (ifs : List Expr) (m : M Bool) : Prop := PTs X ifs (cT X.K adr m)
def mYes : M Bool := fun ρ => .ok true ρ
theorem dts_nil : DTs X adr [] mYes := ⟨fun pins s σ H Q I ⟨W, ρ, F, e1, e2, R, k⟩ => pts_nil.run pins s σ H Q I (k F H (Same.refl _) R)⟩
theorem dts_one {c : Expr} {m : M Bool} (h : DT X adr Wx0 c m) : DTs X adr [c] m := by
  obtain ⟨t, p, q⟩ := h
  exact ⟨fun pins s σ H Q I ⟨W, ρ, F, e1, e2, R, k⟩ => (pts_one p).run pins s σ H Q I (q W σ ρ F H Q ⟨e1, e2⟩ R k)⟩
/-! ### the comprehension -/
def noX {α : Type} : Res α → Res α
  | .exc _ _ _ => .bad
  | r => r
theorem Po.noX {α : Type} {W : Wd} {F : Hp} {Wx : WX} {G : α → List Slot → Hp → Hp → Prop} : ∀ {r : Res α}, Po W F Wx G (noX r) → Po W F Wx0 G r
  | .bad, h => h
  | .ok _ _, h => h
  | .exc _ _ _, h => h.elim
def compT (vs : List Nat) (g : Tg) (tt : M Bool) (el : M D) : List D → M (List D)
  | [] => fun ρ => .ok [] ρ
  | d :: l => fun ρ => match g d ρ with
    | none => .bad
    | some ρ1 => (noX (tt ρ1)).bind fun b ρ2 => if b = true then (noX (el ρ2)).bind fun y ρ3 => (if noIo ρ3 vs = true then (compT vs g tt el l (wipeS ρ3 vs)).bind fun ys ρ4 => .ok (y :: ys) ρ4 else .bad)
      else if noIo ρ2 vs = true then compT vs g tt el l (wipeS ρ2 vs) else .bad
def xLc (vs : List Nat) (mi : M (List D)) (g : Tg) (tt : M Bool) (el : M D) : M Slot := fun ρ => (mi ρ).bind fun l ρ1 => if noIo ρ1 vs = true ∧ l.length ≤ 16777216 then
  (noX (compT vs g tt el l (wipeS ρ1 vs))).bind fun ys ρ2 => .ok (.own (.lst ys)) (restS ρ1 ρ2 vs) else .bad
theorem noX_bind {α β : Type} {W : Wd} {F : Hp} {Wx : WX} {G : β → List Slot → Hp → Hp → Prop} {r : Res α} {k : α → M β} (p : Po W F Wx G (noX (r.bind k))) : Po W F Wx (fun a ρ F' _ => Po W F' Wx G (noX (k a ρ))) r ∧ ∀ c d ρ, r ≠ .exc c d ρ := by
  cases r with
  | bad => exact p.elim
  | exc c d ρ => exact p.elim
  | ok a ρ => exact ⟨fun F' H' s => p.sub s, fun c d ρ z => nomatch z⟩
theorem tLc_ok {mi : M (List D)} {wi : TI} {g : Tg} {tt : M Bool} {el : M D} {vs : List Nat}
    (qi : ∀ W σ ρ F H (Q : It → Hp → Prop), In X adr W → ERel W σ ρ F H → Po W F Wx (fun l ρ1 F1 H1 => ∀ J, ERel W σ ρ1 F1 H1 → Wlk W.K W.adr F1 J l → Q J H1) (mi ρ) → wi σ H Q)
    {W : Wd} {σ : List (Option V)} {ρ : List Slot} {F H : Hp} {Q : V → Hp → Prop} (i : In X adr W) (R : ERel W σ ρ F H) (p : PoX W σ F Wx Q (xLc vs mi g tt el ρ)) :
    tLc wi (cG X.K adr vs g) (cT X.K adr tt) (cE X.K adr el) vs σ H Q := by
  refine qi W σ ρ F H _ i R (p.bind.imp fun l ρ1 F1 H1 s1 p J R1 wl D hD => ?_)
  by_cases hc : noIo ρ1 vs = true ∧ l.length ≤ 16777216
  · rw [if_pos hc] at p
    obtain ⟨hio, hlen⟩ := hc
    obtain ⟨hG1, hG2⟩ : W.G D = none ∧ W.H0 D = none := R1.elim fun _ R => ⟨(R.noG hD).1, (R.noG hD).2.1⟩
    -- what is left to do, j turns done, the items ys found
    let Inv' : Nat → Hp → Prop := fun j H => j ≤ l.length ∧ ∃ acc ys ρ F, Same F1 F ∧ ERel (W.gd D acc) (L2.wipe σ vs) ρ F H ∧ Reps W.K W.adr F ys acc ∧ acc.length ≤ j ∧
      ∃ zs ρe, compT vs g tt el (l.drop j) ρ = .ok zs ρe ∧ PoX W σ F1 Wx Q (.ok (.own (.lst (ys ++ zs))) (restS ρ1 ρe vs))
    have start : Inv' 0 (upd H1 D (.lst [])) := by
      cases e : compT vs g tt el l (wipeS ρ1 vs) with
      | bad => rw [e] at p; exact p.elim
      | exc c d ρ => rw [e] at p; exact p.elim
      | ok zs ρe =>
        rw [e] at p
        exact ⟨Nat.zero_le _, [], [], wipeS ρ1 vs, F1, Same.refl _, (R1.wipe hio).guarded hD, rfl, Nat.le_refl _, zs, ρe, by rw [List.drop_zero]; exact e, p⟩
    refine ⟨fun j m H => m = l.length - j ∧ Inv' j H, ⟨l.length, rfl, start⟩, ?_⟩
    rintro j m H2 ⟨rfl, hj, acc, ys, ρ2, F2, s2, R2, rr, hacc, zs, ρe, ez, pz⟩
    have Wk : (W.gd D acc).K = W.K := rfl
    have Wa : (W.gd D acc).adr = W.adr := rfl
    by_cases hlt : j < l.length
    · have e : l[j]? = some l[j] := List.getElem?_eq_getElem hlt
      refine .inr ⟨wl.go j _ _ _ _ _ _ e Wk Wa s2 R2, fun H' => Inv' (j + 1) H', fun H' h => ⟨l.length - (j + 1), by omega, rfl, h⟩, fun x H3 y => ?_⟩
      obtain ⟨F3, s3, R3, r3⟩ := wl.yld j _ _ _ _ _ _ x H3 e Wk Wa s2 R2 y
      rw [List.drop_eq_getElem_cons hlt, compT] at ez
      cases eg : g l[j] ρ2 with
      | none => simp only [eg] at ez; cases ez
      | some ρ3 =>
        simp only [eg] at ez
        refine ⟨W.gd D acc, ρ2, ρ3, F3, l[j], by rw [Wk]; exact i.k, by rw [Wa]; exact i.a, R3, r3, eg, fun σ' R' w' => ⟨w'.trans (wipe_wipe _ _), W.gd D acc, ρ3, F3, by rw [Wk]; exact i.k, by rw [Wa]; exact i.a, R', ?_⟩⟩
        -- the test
        cases et : tt ρ3 with
        | bad => rw [et] at ez; cases ez
        | exc c d ρ => rw [et] at ez; cases ez
        | ok b ρ4 =>
          rw [et] at ez
          simp only [noX, Res.bind_ok] at ez
          intro F4 H4 s4 R4
          have w'' : L2.wipe σ' vs = L2.wipe σ vs := w'.trans (wipe_wipe _ _)
          cases b with
          | true =>
            simp only [if_true] at ez ⊢
            refine ⟨W.gd D acc, ρ4, F4, by rw [Wk]; exact i.k, by rw [Wa]; exact i.a, R4, ?_⟩
            cases ee : el ρ4 with
            | bad => rw [ee] at ez; cases ez
            | exc c d ρ => rw [ee] at ez; cases ez
            | ok yv ρ5 =>
              rw [ee] at ez
              simp only [noX, Res.bind_ok] at ez
              intro F5 H5 s5 v R5 r5
              by_cases hn : noIo ρ5 vs = true
              · rw [if_pos hn] at ez
                cases er : compT vs g tt el (l.drop (j + 1)) (wipeS ρ5 vs) with
                | bad => rw [er] at ez; cases ez
                | exc c d ρ => rw [er] at ez; cases ez
                | ok zs' ρe' =>
                  rw [er] at ez
                  simp only [Res.bind_ok] at ez
                  cases ez
                  have s15 : Same F1 F5 := ((s2.trans s3).trans s4).trans s5
                  refine ⟨acc, gd_at R5, ?_, ⟨by omega, acc ++ [v], ys ++ [yv], wipeS ρ5 vs, F5, s15, ?_, ?_, ?_, zs', ρe, er, ?_⟩⟩
                  · have : sizeLine = 16777216 := sizeLine_eq
                    omega
                  · exact (R5.rewipe w'' hn).regd hG2
                  · exact Reps.append (Reps.mono (((s3.trans s4).trans s5)) _ _ rr) (Reps.one r5)
                  · rw [List.length_append]; simp; omega
                  · rw [List.append_assoc]; exact pz
              · rw [if_neg hn] at ez; cases ez
          | false =>
            simp only [Bool.false_eq_true, if_false] at ez ⊢
            by_cases hn : noIo ρ4 vs = true
            · rw [if_pos hn] at ez
              have s14 : Same F1 F4 := (s2.trans s3).trans s4
              exact ⟨by omega, acc, ys, wipeS ρ4 vs, F4, s14, R4.rewipe w'' hn, Reps.mono (s3.trans s4) _ _ rr, by omega, zs, ρe, ez, pz⟩
            · rw [if_neg hn] at ez; cases ez
    · have e : j = l.length := by omega
      subst e
      rw [List.drop_length, compT] at ez
      cases ez
      rw [List.append_nil] at pz
      refine .inl ⟨wl.stop _ _ _ _ _ Wk Wa s2 R2, pz F2 H2 s2 (.ref D) ?_ (fun z => z) (fun z => nomatch z)⟩
      exact (ERel.rest (W0 := W) (W := W.gd D acc) rfl rfl R1 s2 R2).ungd hG2 hG1 rr
  · rw [if_neg hc] at p; exact p.elim
theorem dx_lc {elt tg iter : Expr} {ifs : List Expr} {scope : Scope} {own : List (Str × Nat)} {mi : M (List D)} {g : Tg} {tt : M Bool} {el : M D} (hc : X.calm = true) (hN : X.N.Nodup) (hi : DI X adr Wx tg iter mi) (ok : BlkOk X.N X.env.scope scope own)
    (hg : ∀ (s : Shared) (H : Hp) (C : Addr) (cl : List (Str × Addr)) (fp : List Addr), DGw (X.blk s H scope (compEnvC scope cl C X.env) fp) adr (own.map (·.2)) tg g)
    (ht : ∀ (s : Shared) (H : Hp) (C : Addr) (cl : List (Str × Addr)) (fp : List Addr), DTs (X.blk s H scope (compEnvC scope cl C X.env) fp) adr ifs tt)
    (he : ∀ (s : Shared) (H : Hp) (C : Addr) (cl : List (Str × Addr)) (fp : List Addr), DE (X.blk s H scope (compEnvC scope cl C X.env) fp) adr Wx0 elt el) (hs : ∀ x, foldedSetIterable iter X.env x = pure x := by intro _; rfl) :
    DX X adr Wx (.ListComp elt [⟨tg, iter, ifs, 0⟩] scope pos) (xLc (own.map (·.2)) mi g tt el) := by
  obtain ⟨ti, pi, qi⟩ := hi
  exact ⟨_, pe_lc (tt := cT X.K adr tt) hc hN pi ok (fun s H C cl fp => (hg s H C cl fp).c) (fun s H C cl fp => ht s H C cl fp) (fun s H C cl fp => (he s H C cl fp).c) hs, fun W σ ρ F H Q i R p => tLc_ok qi i R p⟩
theorem ds_setLc (i : Nat) {y : Str} {py : Pos} {elt tg iter : Expr} {ifs : List Expr} {scope : Scope} {own : List (Str × Nat)} {spos : Pos} {mi : M (List D)} {g : Tg} {tt : M Bool} {el : M D} (hc : X.calm = true) (hN : X.N.Nodup) (hi : DI X adr Wx tg iter mi) (ok : BlkOk X.N X.env.scope scope own)
    (hg : ∀ (s : Shared) (H : Hp) (C : Addr) (cl : List (Str × Addr)) (fp : List Addr), DGw (X.blk s H scope (compEnvC scope cl C X.env) fp) adr (own.map (·.2)) tg g)
    (ht : ∀ (s : Shared) (H : Hp) (C : Addr) (cl : List (Str × Addr)) (fp : List Addr), DTs (X.blk s H scope (compEnvC scope cl C X.env) fp) adr ifs tt)
    (he : ∀ (s : Shared) (H : Hp) (C : Addr) (cl : List (Str × Addr)) (fp : List Addr), DE (X.blk s H scope (compEnvC scope cl C X.env) fp) adr Wx0 elt el)
    (hy : X.N[i]? = some y := by rfl) (hyl : X.env.scope.names.lookup y = some .local := by rfl) (hk : X.env.scope.kind = .function := by rfl) (hl : (py.line == pos.line) = true := by rfl) (ha : (scope.names.any fun (n, k) => n == y && (k == .local || k == .cell)) = false := by rfl)
    (hs : ∀ x, foldedSetIterable iter X.env x = pure x := by intro _; rfl) :
    DS X adr Wx (.Assign [.Name y py] (.ListComp elt [⟨tg, iter, ifs, 0⟩] scope pos) spos) (sSet i (xLc (own.map (·.2)) mi g tt el)) := by
  obtain ⟨ti, pi, qi⟩ := hi
  have hsw : swapsWith (.ListComp elt [⟨tg, iter, ifs, 0⟩] scope pos) (some (.Name y py)) spos.line X.env = pure true := sw_true hk hyl hl ha
  refine ⟨_, ps_setLc (g := cG X.K adr (own.map (·.2)) g) (tt := cT X.K adr tt) (te := cE X.K adr el) hc hN hy hyl hsw pi ok (fun s H C cl fp => (hg s H C cl fp).c) (fun s H C cl fp => ht s H C cl fp) (fun s H C cl fp => (he s H C cl fp).c) hs, fun W σ ρ F H E i' R p => ?_⟩
  exact tLc_ok (Q := fun x H1 => gName i x σ H1 E.nx) qi i' R (p.bind.imp fun s ρ1 F1 H1 s1 p v R1 r1 r2 => by
    obtain ⟨ρ2, e2, p⟩ := optS_some p
    exact p F1 H1 (Same.refl _) _ (R1.store r1 e2))
/-! ### two clauses -/
def cI (K : PySem.W.Frag) (adr : AdrT) (m : M (List D)) : TI := fun σ H Q => ∃ W ρ F, W.K = K ∧ W.adr = adr ∧ ERel W σ ρ F H ∧ Po W F Wx0 (fun l ρ1 F1 H1 => ∀ J, ERel W σ ρ1 F1 H1 → Wlk W.K W.adr F1 J l → Q J H1) (m ρ)
theorem DI.c {tg e : Expr} {m : M (List D)} (h : DI X adr Wx0 tg e m) : PI X tg e (cI X.K adr m) := by
  obtain ⟨t, p, q⟩ := h
  exact ⟨fun pins s σ H Q I ⟨W, ρ, F, e1, e2, R, k⟩ => p.run pins s σ H Q I (q W σ ρ F H Q ⟨e1, e2⟩ R k)⟩
theorem wipe_sub {σ : List (Option V)} {vs vs1 : List Nat} (h : ∀ i ∈ vs1, i ∈ vs) : L2.wipe (L2.wipe σ vs1) vs = L2.wipe σ vs := by
  induction vs1 with
  | nil => rfl
  | cons v vs1 ih =>
    show L2.wipe ((L2.wipe σ vs1).set v none) vs = _
    rw [wipe_set (h v List.mem_cons_self)]
    exact ih fun i hi => h i (List.mem_cons_of_mem _ hi)
def compU (vs vs1 : List Nat) (g : Tg) (tt : M Bool) (mi1 : M (List D)) (g1 : Tg) (tt1 : M Bool) (el : M D) : List D → M (List D)
  | [] => fun ρ => .ok [] ρ
  | d :: l => fun ρ => match g d ρ with
    | none => .bad
    | some ρ1 => (noX (tt ρ1)).bind fun b ρ2 => if b = true then (noX (mi1 ρ2)).bind fun l1 ρ3 => (if noIo ρ3 vs1 = true then (compT vs1 g1 tt1 el l1 (wipeS ρ3 vs1)).bind fun ys ρ4 =>
        (if noIo ρ4 vs = true then (compU vs vs1 g tt mi1 g1 tt1 el l (wipeS ρ4 vs)).bind fun zs ρ5 => .ok (ys ++ zs) ρ5 else .bad) else .bad)
      else if noIo ρ2 vs = true then compU vs vs1 g tt mi1 g1 tt1 el l (wipeS ρ2 vs) else .bad
def xLc2 (vs vs1 : List Nat) (mi : M (List D)) (g : Tg) (tt : M Bool) (mi1 : M (List D)) (g1 : Tg) (tt1 : M Bool) (el : M D) : M Slot := fun ρ => (mi ρ).bind fun l ρ1 => if noIo ρ1 vs = true then
  (noX (compU vs vs1 g tt mi1 g1 tt1 el l (wipeS ρ1 vs))).bind fun ys ρ2 => if ys.length ≤ 16777216 then .ok (.own (.lst ys)) (restS ρ1 ρ2 vs) else .bad else .bad
theorem tLc2_ok {wi : TI} {mi mi1 : M (List D)} {g g1 : Tg} {tt tt1 : M Bool} {el : M D} {vs vs1 : List Nat} (hv : ∀ i ∈ vs1, i ∈ vs)
    (qi : ∀ W σ ρ F H (Q : It → Hp → Prop), In X adr W → ERel W σ ρ F H → Po W F Wx (fun l ρ1 F1 H1 => ∀ J, ERel W σ ρ1 F1 H1 → Wlk W.K W.adr F1 J l → Q J H1) (mi ρ) → wi σ H Q)
    {W : Wd} {σ : List (Option V)} {ρ : List Slot} {F H : Hp} {Q : V → Hp → Prop} (i : In X adr W) (R : ERel W σ ρ F H) (p : PoX W σ F Wx Q (xLc2 vs vs1 mi g tt mi1 g1 tt1 el ρ)) :
    tLc2 wi (cG X.K adr vs g) (cT X.K adr tt) (cI X.K adr mi1) (cG X.K adr vs1 g1) (cT X.K adr tt1) (cE X.K adr el) vs vs1 σ H Q := by
  refine qi W σ ρ F H _ i R (p.bind.imp fun l ρ1 F1 H1 s1 p J R1 wl D hD => ?_)
  by_cases hio : noIo ρ1 vs = true
  · rw [if_pos hio] at p
    obtain ⟨hG1, hG2⟩ : W.G D = none ∧ W.H0 D = none := R1.elim fun _ R => ⟨(R.noG hD).1, (R.noG hD).2.1⟩
    have hsz : sizeLine = 16777216 := sizeLine_eq
    let Inv' : Nat → Hp → Prop := fun j H => j ≤ l.length ∧ ∃ acc ys ρ F, Same F1 F ∧ ERel (W.gd D acc) (L2.wipe σ vs) ρ F H ∧ Reps W.K W.adr F ys acc ∧
      ∃ zs ρe, compU vs vs1 g tt mi1 g1 tt1 el (l.drop j) ρ = .ok zs ρe ∧ (ys ++ zs).length ≤ 16777216 ∧ PoX W σ F1 Wx Q (.ok (.own (.lst (ys ++ zs))) (restS ρ1 ρe vs))
    have start : Inv' 0 (upd H1 D (.lst [])) := by
      cases e : compU vs vs1 g tt mi1 g1 tt1 el l (wipeS ρ1 vs) with
      | bad => rw [e] at p; exact p.elim
      | exc c d ρ => rw [e] at p; exact p.elim
      | ok zs ρe =>
        rw [e] at p
        simp only [noX, Res.bind_ok] at p
        by_cases hz : zs.length ≤ 16777216
        · rw [if_pos hz] at p
          exact ⟨Nat.zero_le _, [], [], wipeS ρ1 vs, F1, Same.refl _, (R1.wipe hio).guarded hD, rfl, zs, ρe, by rw [List.drop_zero]; exact e, hz, p⟩
        · rw [if_neg hz] at p; exact p.elim
    refine ⟨fun j m H => m = l.length - j ∧ Inv' j H, ⟨l.length, rfl, start⟩, ?_⟩
    rintro j m H2 ⟨rfl, hj, acc, ys, ρ2, F2, s2, R2, rr, zs, ρe, ez, hz, pz⟩
    have Wk : ∀ acc, (W.gd D acc).K = W.K := fun _ => rfl
    have Wa : ∀ acc, (W.gd D acc).adr = W.adr := fun _ => rfl
    have iK : ∀ acc, (W.gd D acc).K = X.K := fun _ => i.k
    have iA : ∀ acc, (W.gd D acc).adr = adr := fun _ => i.a
    by_cases hlt : j < l.length
    · have e : l[j]? = some l[j] := List.getElem?_eq_getElem hlt
      refine .inr ⟨wl.go j _ _ _ _ _ _ e (Wk _) (Wa _) s2 R2, fun H' => Inv' (j + 1) H', fun H' h => ⟨l.length - (j + 1), by omega, rfl, h⟩, fun x H3 y => ?_⟩
      obtain ⟨F3, s3, R3, r3⟩ := wl.yld j _ _ _ _ _ _ x H3 e (Wk _) (Wa _) s2 R2 y
      rw [List.drop_eq_getElem_cons hlt, compU] at ez
      cases eg : g l[j] ρ2 with
      | none => simp only [eg] at ez; cases ez
      | some ρ3 =>
        simp only [eg] at ez
        refine ⟨W.gd D acc, ρ2, ρ3, F3, l[j], iK _, iA _, R3, r3, eg, fun σ' R' w' => ⟨w'.trans (wipe_wipe _ _), W.gd D acc, ρ3, F3, iK _, iA _, R', ?_⟩⟩
        have w'' : L2.wipe σ' vs = L2.wipe σ vs := w'.trans (wipe_wipe _ _)
        cases et : tt ρ3 with
        | bad => rw [et] at ez; cases ez
        | exc c d ρ => rw [et] at ez; cases ez
        | ok b ρ4 =>
          rw [et] at ez
          simp only [noX, Res.bind_ok] at ez
          intro F4 H4 s4 R4
          cases b with
          | false =>
            simp only [Bool.false_eq_true, if_false] at ez ⊢
            by_cases hn : noIo ρ4 vs = true
            · rw [if_pos hn] at ez
              exact ⟨by omega, acc, ys, wipeS ρ4 vs, F4, (s2.trans s3).trans s4, R4.rewipe w'' hn, Reps.mono (s3.trans s4) _ _ rr, zs, ρe, ez, hz, pz⟩
            · rw [if_neg hn] at ez; cases ez
          | true =>
            simp only [if_true] at ez ⊢
            refine ⟨W.gd D acc, ρ4, F4, iK _, iA _, R4, ?_⟩
            cases e5 : mi1 ρ4 with
            | bad => rw [e5] at ez; cases ez
            | exc c d ρ => rw [e5] at ez; cases ez
            | ok l1 ρ5 =>
              rw [e5] at ez
              simp only [noX, Res.bind_ok] at ez
              intro F5 H5 s5 J1 R5 wl1
              by_cases hn5 : noIo ρ5 vs1 = true
              · rw [if_pos hn5] at ez
                cases e6 : compT vs1 g1 tt1 el l1 (wipeS ρ5 vs1) with
                | bad => rw [e6] at ez; cases ez
                | exc c d ρ => rw [e6] at ez; cases ez
                | ok us ρ6 =>
                  rw [e6] at ez
                  simp only [Res.bind_ok] at ez
                  by_cases hn6 : noIo ρ6 vs = true
                  · rw [if_pos hn6] at ez
                    cases e7 : compU vs vs1 g tt mi1 g1 tt1 el (l.drop (j + 1)) (wipeS ρ6 vs) with
                    | bad => rw [e7] at ez; cases ez
                    | exc c d ρ => rw [e7] at ez; cases ez
                    | ok zs' ρe' =>
                      rw [e7] at ez
                      simp only [Res.bind_ok] at ez
                      cases ez
                      have s15 : Same F1 F5 := ((s2.trans s3).trans s4).trans s5
                      -- the inner loop: k turns done
                      refine ⟨fun k m H => m = l1.length - k ∧ k ≤ l1.length ∧ ∃ acc' ys' ρ F, Same F5 F ∧ ERel (W.gd D acc') (L2.wipe σ' vs1) ρ F H ∧ Reps W.K W.adr F ys' acc' ∧
                        ∃ us', compT vs1 g1 tt1 el (l1.drop k) ρ = .ok us' ρ6 ∧ ys' ++ us' = ys ++ us, ⟨l1.length, rfl, Nat.zero_le _, acc, ys, wipeS ρ5 vs1, F5, Same.refl _, R5.wipe hn5, Reps.mono ((s3.trans s4).trans s5) _ _ rr, us, by rw [List.drop_zero]; exact e6, rfl⟩, ?_⟩
                      rintro k m H6 ⟨rfl, hk, acc', ys', ρ7, F7, s7, R7, r7, us', e8, eu⟩
                      by_cases hlt1 : k < l1.length
                      · have ek : l1[k]? = some l1[k] := List.getElem?_eq_getElem hlt1
                        refine .inr ⟨wl1.go k _ (W.gd D acc') _ _ _ _ ek rfl rfl s7 R7, fun H => ∃ acc' ys' ρ F, Same F5 F ∧ ERel (W.gd D acc') (L2.wipe σ' vs1) ρ F H ∧ Reps W.K W.adr F ys' acc' ∧
                          ∃ us', compT vs1 g1 tt1 el (l1.drop (k + 1)) ρ = .ok us' ρ6 ∧ ys' ++ us' = ys ++ us, fun H' h => ⟨l1.length - (k + 1), by omega, rfl, by omega, h⟩, fun x H7 y => ?_⟩
                        obtain ⟨F8, s8, R8, r8⟩ := wl1.yld k _ (W.gd D acc') _ _ _ _ x H7 ek rfl rfl s7 R7 y
                        rw [List.drop_eq_getElem_cons hlt1, compT] at e8
                        cases eg1 : g1 l1[k] ρ7 with
                        | none => simp only [eg1] at e8; cases e8
                        | some ρ8 =>
                          simp only [eg1] at e8
                          refine ⟨W.gd D acc', ρ7, ρ8, F8, l1[k], iK _, iA _, R8, r8, eg1, fun σ'' R'' u' => ⟨u'.trans (wipe_wipe _ _), W.gd D acc', ρ8, F8, iK _, iA _, R'', ?_⟩⟩
                          have u'' : L2.wipe σ'' vs1 = L2.wipe σ' vs1 := u'.trans (wipe_wipe _ _)
                          cases et1 : tt1 ρ8 with
                          | bad => rw [et1] at e8; cases e8
                          | exc c d ρ => rw [et1] at e8; cases e8
                          | ok b1 ρ9 =>
                            rw [et1] at e8
                            simp only [noX, Res.bind_ok] at e8
                            intro F9 H9 s9 R9
                            cases b1 with
                            | false =>
                              simp only [Bool.false_eq_true, if_false] at e8 ⊢
                              by_cases hn : noIo ρ9 vs1 = true
                              · rw [if_pos hn] at e8
                                exact ⟨acc', ys', wipeS ρ9 vs1, F9, (s7.trans s8).trans s9, R9.rewipe u'' hn, Reps.mono (s8.trans s9) _ _ r7, us', e8, eu⟩
                              · rw [if_neg hn] at e8; cases e8
                            | true =>
                              simp only [if_true] at e8 ⊢
                              refine ⟨W.gd D acc', ρ9, F9, iK _, iA _, R9, ?_⟩
                              cases ee : el ρ9 with
                              | bad => rw [ee] at e8; cases e8
                              | exc c d ρ => rw [ee] at e8; cases e8
                              | ok yv ρ10 =>
                                rw [ee] at e8
                                simp only [noX, Res.bind_ok] at e8
                                intro F10 H10 s10 v R10 r10
                                by_cases hn : noIo ρ10 vs1 = true
                                · rw [if_pos hn] at e8
                                  cases er : compT vs1 g1 tt1 el (l1.drop (k + 1)) (wipeS ρ10 vs1) with
                                  | bad => rw [er] at e8; cases e8
                                  | exc c d ρ => rw [er] at e8; cases e8
                                  | ok us2 ρe2 =>
                                    rw [er] at e8
                                    simp only [Res.bind_ok] at e8
                                    cases e8
                                    refine ⟨acc', gd_at R10, ?_, acc' ++ [v], ys' ++ [yv], wipeS ρ10 vs1, F10, ((s7.trans s8).trans s9).trans s10, (R10.rewipe u'' hn).regd hG2, Reps.append (Reps.mono ((s8.trans s9).trans s10) _ _ r7) (Reps.one r10), us2, er, by rw [List.append_assoc]; exact eu⟩
                                    have h1 : acc'.length = ys'.length := r7.length.symm
                                    have h2 := congrArg List.length eu
                                    simp only [List.length_append, List.length_cons] at h2 hz
                                    omega
                                · rw [if_neg hn] at e8; cases e8
                      · have ek : k = l1.length := by omega
                        subst ek
                        rw [List.drop_length, compT] at e8
                        cases e8
                        rw [List.append_nil] at eu
                        subst eu
                        refine .inl ⟨wl1.stop (W.gd D acc') _ _ _ _ rfl rfl s7 R7, by omega, acc', ys ++ us, wipeS ρ6 vs, F7, s15.trans s7, ?_, r7, zs', ρe, e7, by rw [List.append_assoc]; exact hz, by rw [List.append_assoc]; exact pz⟩
                        exact R7.rewipe ((wipe_sub hv).trans w'') hn6
                  · rw [if_neg hn6] at ez; cases ez
              · rw [if_neg hn5] at ez; cases ez
    · have e : j = l.length := by omega
      subst e
      rw [List.drop_length, compU] at ez
      cases ez
      rw [List.append_nil] at pz
      refine .inl ⟨wl.stop _ _ _ _ _ (Wk _) (Wa _) s2 R2, pz F2 H2 s2 (.ref D) ?_ (fun z => z) (fun z => nomatch z)⟩
      exact (ERel.rest (W0 := W) (W := W.gd D acc) rfl rfl R1 s2 R2).ungd hG2 hG1 rr
  · rw [if_neg hio] at p; exact p.elim
theorem dx_lc2 {elt tg iter tg1 iter1 : Expr} {ifs ifs1 : List Expr} {scope : Scope} {own : List (Str × Nat)} (vs1 : List Nat) {mi mi1 : M (List D)} {g g1 : Tg} {tt tt1 : M Bool} {el : M D} (hc : X.calm = true) (hN : X.N.Nodup) (hi : DI X adr Wx tg iter mi) (ok : BlkOk X.N X.env.scope scope own)
    (hg : ∀ (s : Shared) (H : Hp) (C : Addr) (cl : List (Str × Addr)) (fp : List Addr), DGw (X.blk s H scope (compEnvC scope cl C X.env) fp) adr (own.map (·.2)) tg g)
    (ht : ∀ (s : Shared) (H : Hp) (C : Addr) (cl : List (Str × Addr)) (fp : List Addr), DTs (X.blk s H scope (compEnvC scope cl C X.env) fp) adr ifs tt)
    (hi1 : ∀ (s : Shared) (H : Hp) (C : Addr) (cl : List (Str × Addr)) (fp : List Addr), DI (X.blk s H scope (compEnvC scope cl C X.env) fp) adr Wx0 tg1 iter1 mi1)
    (hg1 : ∀ (s : Shared) (H : Hp) (C : Addr) (cl : List (Str × Addr)) (fp : List Addr), DGw (X.blk s H scope (compEnvC scope cl C X.env) fp) adr vs1 tg1 g1)
    (ht1 : ∀ (s : Shared) (H : Hp) (C : Addr) (cl : List (Str × Addr)) (fp : List Addr), DTs (X.blk s H scope (compEnvC scope cl C X.env) fp) adr ifs1 tt1)
    (he : ∀ (s : Shared) (H : Hp) (C : Addr) (cl : List (Str × Addr)) (fp : List Addr), DE (X.blk s H scope (compEnvC scope cl C X.env) fp) adr Wx0 elt el)
    (hv : ∀ i ∈ vs1, i ∈ own.map (·.2) := by decide) (hs : ∀ x, foldedSetIterable iter X.env x = pure x := by intro _; rfl) (hs1 : ∀ env x, foldedSetIterable iter1 env x = pure x := by intro _ _; rfl) :
    DX X adr Wx (.ListComp elt [⟨tg, iter, ifs, 0⟩, ⟨tg1, iter1, ifs1, 0⟩] scope pos) (xLc2 (own.map (·.2)) vs1 mi g tt mi1 g1 tt1 el) := by
  obtain ⟨ti, pi, qi⟩ := hi
  exact ⟨_, pe_lc2 (tt := cT X.K adr tt) (tt1 := cT X.K adr tt1) hc hN pi ok hv (fun s H C cl fp => (hg s H C cl fp).c) (fun s H C cl fp => ht s H C cl fp) (fun s H C cl fp => (hi1 s H C cl fp).c) (fun s H C cl fp => (hg1 s H C cl fp).c) (fun s H C cl fp => ht1 s H C cl fp) (fun s H C cl fp => (he s H C cl fp).c) hs hs1,
    fun W σ ρ F H Q i R p => tLc2_ok hv qi i R p⟩
theorem ds_setLc2 (i : Nat) {y : Str} {py : Pos} {elt tg iter tg1 iter1 : Expr} {ifs ifs1 : List Expr} {scope : Scope} {own : List (Str × Nat)} (vs1 : List Nat) {spos : Pos} {mi mi1 : M (List D)} {g g1 : Tg} {tt tt1 : M Bool} {el : M D} (hc : X.calm = true) (hN : X.N.Nodup) (hi : DI X adr Wx tg iter mi) (ok : BlkOk X.N X.env.scope scope own)
    (hg : ∀ (s : Shared) (H : Hp) (C : Addr) (cl : List (Str × Addr)) (fp : List Addr), DGw (X.blk s H scope (compEnvC scope cl C X.env) fp) adr (own.map (·.2)) tg g)
    (ht : ∀ (s : Shared) (H : Hp) (C : Addr) (cl : List (Str × Addr)) (fp : List Addr), DTs (X.blk s H scope (compEnvC scope cl C X.env) fp) adr ifs tt)
    (hi1 : ∀ (s : Shared) (H : Hp) (C : Addr) (cl : List (Str × Addr)) (fp : List Addr), DI (X.blk s H scope (compEnvC scope cl C X.env) fp) adr Wx0 tg1 iter1 mi1)
    (hg1 : ∀ (s : Shared) (H : Hp) (C : Addr) (cl : List (Str × Addr)) (fp : List Addr), DGw (X.blk s H scope (compEnvC scope cl C X.env) fp) adr vs1 tg1 g1)
    (ht1 : ∀ (s : Shared) (H : Hp) (C : Addr) (cl : List (Str × Addr)) (fp : List Addr), DTs (X.blk s H scope (compEnvC scope cl C X.env) fp) adr ifs1 tt1)
    (he : ∀ (s : Shared) (H : Hp) (C : Addr) (cl : List (Str × Addr)) (fp : List Addr), DE (X.blk s H scope (compEnvC scope cl C X.env) fp) adr Wx0 elt el)
    (hv : ∀ i ∈ vs1, i ∈ own.map (·.2) := by decide) (hy : X.N[i]? = some y := by rfl) (hyl : X.env.scope.names.lookup y = some .local := by rfl) (hk : X.env.scope.kind = .function := by rfl) (hl : (py.line == pos.line) = true := by rfl) (ha : (scope.names.any fun (n, k) => n == y && (k == .local || k == .cell)) = false := by rfl)
    (hs : ∀ x, foldedSetIterable iter X.env x = pure x := by intro _; rfl) (hs1 : ∀ env x, foldedSetIterable iter1 env x = pure x := by intro _ _; rfl) :
    DS X adr Wx (.Assign [.Name y py] (.ListComp elt [⟨tg, iter, ifs, 0⟩, ⟨tg1, iter1, ifs1, 0⟩] scope pos) spos) (sSet i (xLc2 (own.map (·.2)) vs1 mi g tt mi1 g1 tt1 el)) := by
  obtain ⟨ti, pi, qi⟩ := hi
  have hsw : swapsWith (.ListComp elt [⟨tg, iter, ifs, 0⟩, ⟨tg1, iter1, ifs1, 0⟩] scope pos) (some (.Name y py)) spos.line X.env = pure true := sw_true hk hyl hl ha
  refine ⟨_, ps_setLc2 (g := cG X.K adr (own.map (·.2)) g) (g1 := cG X.K adr vs1 g1) (wi1 := cI X.K adr mi1) (tt := cT X.K adr tt) (tt1 := cT X.K adr tt1) (te := cE X.K adr el) hc hN hy hyl hsw pi ok hv (fun s H C cl fp => (hg s H C cl fp).c) (fun s H C cl fp => ht s H C cl fp) (fun s H C cl fp => (hi1 s H C cl fp).c) (fun s H C cl fp => (hg1 s H C cl fp).c) (fun s H C cl fp => ht1 s H C cl fp) (fun s H C cl fp => (he s H C cl fp).c) hs hs1, fun W σ ρ F H E i' R p => ?_⟩
  exact tLc2_ok (Q := fun x H1 => gName i x σ H1 E.nx) hv qi i' R (p.bind.imp fun s ρ1 F1 H1 s1 p v R1 r1 r2 => by
    obtain ⟨ρ2, e2, p⟩ := optS_some p
    exact p F1 H1 (Same.refl _) _ (R1.store r1 e2))
end
end DL

set_option maxHeartbeats 4000000
/-! DL10: enumerate of a tuple or list; texts sign by sign; zip; reversed. -/
namespace PySem
open AutoSeq1 (wpAny_loadPart')
theorem meets_enumerate_newT (l : Addr) (items : Array Value) (o : Obj) :
    Meets (Builtin.«enumerate.__new__» ⟨[.type "enumerate", .ref l], []⟩) (fun _ R s => s.heap.IsTuple l items ∧
      R (.ok (.ret (.ref (s.heap.push { cls := .type "tuple_iterator", data := .fields #[.ref l, .int 0 0] }).objs.size)))
        { s with heap := (s.heap.push { cls := .type "tuple_iterator", data := .fields #[.ref l, .int 0 0] }).push { cls := .type "enumerate", data := .fields #[.none, .bool false, .ref s.heap.objs.size, rawInt 0, .none, .none] } }) :=
  .of_wp fun prog w A R s h => by
    obtain ⟨hp, g, d, tk, os⟩ := s; obtain ⟨hL, h⟩ := h
    have hsub := sub_enumerate
    obtain ⟨ol, hl, hc, n, hd⟩ := id hL
    replace hl : hp.get? l = some ol := hl
    wp_walk using wpAny_loadPart' hl
    refine wpAny_stack_any fun st => wpAny_pure ?_
    split
    · rename_i c _ _ _ _ _
      cases (c == Value.type "enumerate")
      · wp_walk using wpAny_loadPart' hl, wpAny_pyIter_tuple hL
        exact ⟨_, rfl, h⟩
      · wp_walk using wpAny_loadPart' hl, wpAny_pyIter_tuple hL
        exact ⟨_, rfl, h⟩
    · wp_walk using wpAny_loadPart' hl, wpAny_pyIter_tuple hL
      exact ⟨_, rfl, h⟩
theorem call_enumerate_tuple {prog : Program} {w : World} {A : Around} {E : Value → Shared → Prop} {s : Shared} {l : Addr} {items : Array Value} {Q : Value → Shared → Prop} (hL : s.heap.IsTuple l items)
    (h : ∀ h', IsEnum h' (s.heap.objs.size + 1) s.heap.objs.size 0 .none → h'.IsTupleIter s.heap.objs.size l 0 → h'.objs.size = s.heap.objs.size + 2 →
      (∀ b o, s.heap.get? b = some o → h'.get? b = some o) → Q (.ref (s.heap.objs.size + 1)) { s with heap := h' }) :
    wpAny (model prog w) A (call (.type "enumerate") [.ref l]) Q E s := by
  refine callType_new F.called_enumerate (by decide) (F.typeCall_enumerate_1 _) (F.newCall_enumerate_1 _) (fun obj => F.args_object_init_2 obj _) F.entry_enumerate_new
    (meets_enumerate_newT l items default) ⟨hL, ?_⟩
  have hz : (s.heap.push { cls := .type "tuple_iterator", data := .fields #[.ref l, .int 0 0] }).objs.size = s.heap.objs.size + 1 := Heap.size_push ..
  show _ ∧ _
  rw [hz]
  have he : IsEnum ((s.heap.push { cls := .type "tuple_iterator", data := .fields #[.ref l, .int 0 0] }).push
      { cls := .type "enumerate", data := .fields #[.none, .bool false, .ref s.heap.objs.size, rawInt 0, .none, .none] }) (s.heap.objs.size + 1) s.heap.objs.size 0 .none := by
    have := Heap.get?_push_size (s.heap.push { cls := .type "tuple_iterator", data := .fields #[.ref l, .int 0 0] })
      (o := { cls := .type "enumerate", data := .fields #[.none, .bool false, .ref s.heap.objs.size, rawInt 0, .none, .none] }) rfl
    rw [hz] at this; exact this
  refine ⟨⟨_, he, rfl⟩, h _ he ⟨_, Heap.get?_push_of_some _ (Heap.get?_push_size _ rfl), rfl, rfl⟩ (by rw [Heap.size_push, hz]) fun b o x => Heap.get?_push_of_some _ (Heap.get?_push_of_some _ x)⟩
theorem wpAny_pyNext_enum_endT {prog : Program} {w : World} {A : Around} {E : Value → Shared → Prop} {s : Shared} {e it l : Addr} {i : Nat} {k : Int} {items : Array Value} {old : Value} {Q : Option Value → Shared → Prop} (hh : A.in1.handled = none)
    (he : IsEnum s.heap e it k old) (hit : s.heap.IsTupleIter it l i) (hl : s.heap.IsTuple l items) (hx : items[i]? = none)
    (hQ : ∀ h', Heap.ExtBut it s.heap h' → Q none { s with heap := h' }) : wpAny (model prog w) A (pyNext (.ref e)) Q E s := by
  have hT : s.TypeIs (.ref e) "enumerate" := ⟨_, he, rfl⟩
  unfold pyNext
  refine wpAny_bind (wpAny_attempt (wpAny_callSpecial?_slot (name := Str.ofString "__next__") hT F.slot_enumerate_next
    (wpAny_call_entry F.slot_enumerate_next hT F.entry_enumerate_next ?_ (F.args_enumerate_next_1 _))))
  show wpAny _ _ (field (.ref e) 2 >>= _) _ _ _
  refine wpAny_bind (wpAny_field he rfl (x := .ref it) rfl ?_)
  refine wpAny_bind (wpAny_nextOf_tuple_end hh hit hl hx fun h' x he' hx' => ?_)
  obtain ⟨o, ho, hc⟩ := hx'
  refine wpAny_bind (wpAny_isInstance (T := "StopIteration") (b := true) ⟨o, ho, hc⟩ isSubtype_stop ?_)
  exact wpAny_pure (hQ _ he')
end PySem
namespace DL
open PySem PySem.Spec PyProof.Rows L2
def IteT (K : PySem.W.Frag) (a : Addr) : It :=
  ⟨fun i H => ∃ (xs : List V) (x : V), SqT K H a xs ∧ xs[i]? = some x, fun i H v H' => ∃ T x, v = .ref T ∧ H T = none ∧ H' = upd H T (.tup [.int (i : Nat), x]) ∧ ∀ xs, SqT K H a xs → xs[i]? = some x, fun i H => ∃ xs : List V, SqT K H a xs ∧ xs.length ≤ i⟩
theorem turn_enumT {P : Program} {w : World} {K : PySem.W.Frag} {elts : List Expr} {kk : Nat} {tpos : Pos} (a e it : Addr) :
    Turn P w K (.Tuple elts kk tpos) (IteT K a) [e, it] e (fun i h => (∃ old, IsEnum h e it ((i : Nat) : Int) old) ∧ h.IsTupleIter it a i ∧ e ≠ it ∧ e ≠ a ∧ a ≠ it) where
  mem := by simp
  obj := fun i h st b hb => by
    obtain ⟨⟨old, he⟩, ⟨o, ho, hc, hd⟩, _⟩ := st
    have e' : b = e ∨ b = it := by simpa using hb
    rcases e' with z | z
    · rw [z]; exact ⟨_, he, fun v q => nomatch q⟩
    · rw [z]; exact ⟨o, ho, fun v q => by rw [hd] at q; cases q⟩
  keep := fun i h h' st k => let ⟨⟨old, he⟩, hi, hne⟩ := st; ⟨⟨old, k e (by simp) _ he⟩, hi.at fun o q => k it (by simp) o q, hne⟩
  item := by
    intro X hP hw hK hc i pins s σ H E I hf st hg
    subst hP hw hK
    obtain ⟨⟨old, he⟩, hit, hne, hea, hai⟩ := st
    obtain ⟨xs, x, hq, hx⟩ := hg
    obtain ⟨its, rv, p, hz⟩ := I.tuple hq
    have pT : s.heap.IsTuple a its.toArray := p
    obtain ⟨u, hu, ru⟩ := rv.get hx
    have hel : e < s.heap.objs.size := Heap.lt_size he
    have hil : it < s.heap.objs.size := by obtain ⟨_, q, _⟩ := hit; exact Heap.lt_size q
    have hA : X.A.in1.handled = none := I.ok.hd hc
    refine wpAny_pyNext_enum_itemD (Draws.tuple hA it a hai its.toArray) he ⟨hit, pT⟩ (by have := (List.getElem?_eq_some_iff.mp hu).1; simpa using this) hne (by simp [hne, hea]) fun y h' tk hy ho hit' hT hsz hk => ?_
    have ey : y = u := by
      have : its.toArray[i]? = some u := by simpa using hu
      exact Option.some.inj (hy.symm.trans this)
    subst ey
    refine ⟨_, rfl, wpAny_letOwnedTupleGo_enum (s := { s with heap := h', toks := tk + 1 }) ho fun h'' he' sb => ?_⟩
    have hT2 : h''.get? s.heap.objs.size = some { cls := .type "tuple", data := .seq #[.int i tk, y] } := (sb.2 _ (Nat.ne_of_gt hel)).trans hT
    have new : ObjOk X.prog X.w (upd H s.heap.objs.size (.tup [.int (i : Nat), x])) h'' s.heap.objs.size (.tup [.int (i : Nat), x]) :=
      ⟨by show 2 ≤ sizeLine; decide, [.int i tk, y], .cons ⟨_, rfl⟩ (.cons ru .nil), ⟨_, hT2, rfl, _, rfl⟩⟩
    have I1 : Inv X pins σ (upd H s.heap.objs.size (.tup [.int (i : Nat), x])) { s with heap := h'', toks := tk + 1 } :=
      I.turnedNew (ch := [e, it]) (fun b ob hb q => (sb.2 b (fun z => hb (by simp [z]))).trans (hk b ob (fun z => hb (by simp [z])) (fun z => hb (by simp [z])) q)) hf (Nat.le_refl _) new
    refine ⟨.ref s.heap.objs.size, _, I1, rfl, ⟨_, x, rfl, I.hok.fresh (Nat.le_refl _), rfl, fun ys hy => by rw [I.tuple_inj hy hq]; exact hx⟩, ⟨⟨y, ?_⟩, hit'.1.at fun o q => (sb.2 it (Ne.symm hne)).trans q, hne, hea, hai⟩, fun b hb => ?_⟩
    · have e1 : ((i + 1 : Nat) : Int) = (i : Int) + 1 := by omega
      rw [e1]; exact he'
    · have hb' : b < s.heap.objs.size := by
        have e' : b = e ∨ b = it := by simpa using hb
        rcases e' with z | z
        · rw [z]; exact hel
        · rw [z]; exact hil
      rw [upd_ne (Nat.ne_of_lt hb')]
      exact (hf b hb).1
  done := by
    intro X hP hw hK hc i pins s σ H E I hf st hg
    subst hP hw hK
    obtain ⟨⟨old, he⟩, hit, hne, hea, hai⟩ := st
    obtain ⟨xs, hq, hx⟩ := hg
    obtain ⟨its, rv, p, hz⟩ := I.tuple hq
    have pT : s.heap.IsTuple a its.toArray := p
    obtain ⟨f0, f1, f2, f3, f4, f5⟩ := hf it (by simp)
    have hl := rv.length
    have hA : X.A.in1.handled = none := I.ok.hd hc
    refine wpAny_pyNext_enum_endT hA he hit pT (by simp; omega) fun h' eb => ⟨rfl, I.turned (t' := s.toks) (fun b o hb q => eb b o hb q) f0 f1 f3 f4 f5⟩
  self := fun A i s Q E st h => let ⟨⟨_, he⟩, _⟩ := st; wpAny_pyIter_enum he h
def iEnumA (K : PySem.W.Frag) (ta : TA) : TI := fun σ H R => ta σ H fun vs H1 => ∃ a xs, vs = [.ref a] ∧ ((SqL K H1 a xs ∧ R (Ite K a) H1) ∨ (SqT K H1 a xs ∧ R (IteT K a) H1))
theorem pi_enumA {X : Cx} {e : Expr} {ta : TA} {p pos tpos : Pos} {elts : List Expr} {kk : Nat} (hg : Gl X "enumerate") (hm : X.mg "enumerate" = none) (ha : PA X [e] ta) (hs : starEach [e] X.env = [(false, eval e X.env)] := by rfl) :
    PI X (.Tuple elts kk tpos) (.Call (.Name "enumerate" p) [e] [] pos) (iEnumA X.K ta) := by
  refine ⟨fun pins s σ H R I h => ?_⟩
  refine Call_ (ld_blt I hg hm boot_enumerate (PyProof.Rows.callWith_type1 (thn (ha.run pos pins s σ H _ I h) fun us s1 ⟨vs, H1, I1, r1, q1⟩ => ?_) hs rfl))
  obtain ⟨a, xs, ex, q1⟩ := q1
  subst ex
  cases r1 with
  | cons r rr =>
    cases rr
    cases r
    have fp : ∀ b, b ∈ [s1.heap.objs.size + 1, s1.heap.objs.size] → FpOk X pins H1 b := fun b hb => by
      have e' : b = s1.heap.objs.size + 1 ∨ b = s1.heap.objs.size := by simpa using hb
      have hle : s1.heap.objs.size ≤ b := by
        rcases e' with z | z
        · rw [z]; exact Nat.le_add_right _ _
        · rw [z]; exact Nat.le_refl _
      exact I1.fpOk hle (I1.hok.fresh hle)
    rcases q1 with ⟨hq, q⟩ | ⟨hq, q⟩
    · obtain ⟨its, rv, p', hz⟩ := I1.list hq
      refine call_enumerate_list p'.isList fun h' he hit hsz hk => wpAny_pyIter_enum he ?_
      have I2 : Inv X pins σ H1 { s1 with heap := h' } := I1.kept (t' := s1.toks) hk
      exact ⟨s1.heap.objs.size + 1, [s1.heap.objs.size + 1, s1.heap.objs.size], _, _, H1, rfl, I2, turn_enum a (s1.heap.objs.size + 1) s1.heap.objs.size, ⟨⟨.none, he⟩, hit, Nat.succ_ne_self _⟩, fp, q⟩
    · obtain ⟨its, rv, p', hz⟩ := I1.tuple hq
      have pT : s1.heap.IsTuple a its.toArray := p'
      obtain ⟨o1, ho1, _⟩ := id pT
      have hlt : a < s1.heap.objs.size := Heap.lt_size ho1
      refine call_enumerate_tuple pT fun h' he hit hsz hk => wpAny_pyIter_enum he ?_
      have I2 : Inv X pins σ H1 { s1 with heap := h' } := I1.kept (t' := s1.toks) hk
      exact ⟨s1.heap.objs.size + 1, [s1.heap.objs.size + 1, s1.heap.objs.size], _, _, H1, rfl, I2, turn_enumT a (s1.heap.objs.size + 1) s1.heap.objs.size, ⟨⟨.none, he⟩, hit, Nat.succ_ne_self _, Nat.ne_of_gt (Nat.lt_succ_of_lt hlt), Nat.ne_of_lt hlt⟩, fp, q⟩
/-! ### on data -/
section
variable {X : Cx} {adr : AdrT} {Wx : WX} {pos : Pos}
/-- the pairs of enumerate -/
def enumD (l : List D) : List D := (l.zipIdx).map fun p => D.tup [.int p.2, p.1]
theorem enumD_get {l : List D} {i : Nat} {d : D} (h : (enumD l)[i]? = some d) : ∃ x, l[i]? = some x ∧ d = .tup [.int i, x] := by
  unfold enumD at h
  rw [List.getElem?_map, List.getElem?_zipIdx] at h
  cases e : l[i]? with
  | none => rw [e] at h; simp at h
  | some x => rw [e] at h; simp at h; exact ⟨x, rfl, h.symm⟩
theorem enumD_length {l : List D} : (enumD l).length = l.length := by simp [enumD]
theorem wlk_enum {K : PySem.W.Frag} {F1 : Hp} {a : Addr} {l : List D} {xs : List V} (h : SqL K F1 a xs) (r : Reps K adr F1 l xs) : Wlk K adr F1 (Ite K a) (enumD l) where
  go := fun i d W σ ρ F H e eK eA s R => by
    obtain ⟨x, e1, _⟩ := enumD_get e
    obtain ⟨v, e2, _⟩ := r.get e1
    exact ⟨xs, v, (s.trans R.sub).seq h, e2⟩
  yld := fun i d W σ ρ F H x H' e eK eA s R y => by
    obtain ⟨dx, e1, rfl⟩ := enumD_get e
    obtain ⟨v, e2, r2⟩ := r.get e1
    obtain ⟨T, x', rfl, hT, rfl, y⟩ := y
    have : x' = v := Option.some.inj ((y xs ((s.trans R.sub).seq h)).symm.trans e2)
    subst this
    obtain ⟨R2, s2⟩ := R.alloc (o := .tup [.int (i : Nat), x']) hT
    exact ⟨_, s2, R2, T, _, rfl, .inl (.inl upd_same), _, _, rfl, rfl, _, _, rfl, Rep.mono (s.trans s2) _ _ r2, rfl⟩
  stop := fun W σ ρ F H eK eA s R => ⟨xs, (s.trans R.sub).seq h, by rw [enumD_length, r.length]; exact Nat.le_refl _⟩
theorem wlk_enumT {K : PySem.W.Frag} {F1 : Hp} {a : Addr} {l : List D} {xs : List V} (h : SqT K F1 a xs) (r : Reps K adr F1 l xs) : Wlk K adr F1 (IteT K a) (enumD l) where
  go := fun i d W σ ρ F H e eK eA s R => by
    obtain ⟨x, e1, _⟩ := enumD_get e
    obtain ⟨v, e2, _⟩ := r.get e1
    exact ⟨xs, v, seqT_same (s.trans R.sub) h, e2⟩
  yld := fun i d W σ ρ F H x H' e eK eA s R y => by
    obtain ⟨dx, e1, rfl⟩ := enumD_get e
    obtain ⟨v, e2, r2⟩ := r.get e1
    obtain ⟨T, x', rfl, hT, rfl, y⟩ := y
    have : x' = v := Option.some.inj ((y xs (seqT_same (s.trans R.sub) h)).symm.trans e2)
    subst this
    obtain ⟨R2, s2⟩ := R.alloc (o := .tup [.int (i : Nat), x']) hT
    exact ⟨_, s2, R2, T, _, rfl, .inl (.inl upd_same), _, _, rfl, rfl, _, _, rfl, Rep.mono (s.trans s2) _ _ r2, rfl⟩
  stop := fun W σ ρ F H eK eA s R => ⟨xs, seqT_same (s.trans R.sub) h, by rw [enumD_length, r.length]; exact Nat.le_refl _⟩
def iEn (m : M D) : M (List D) := fun ρ => (m ρ).bind fun d ρ1 => match d with
  | .lst l => .ok (enumD l) ρ1
  | .tup l => .ok (enumD l) ρ1
  | .scr l => .ok (enumD (l.map D.int)) ρ1
  | _ => .bad
theorem di_enum {e : Expr} {m : M D} {p tpos : Pos} {elts : List Expr} {kk : Nat} (hg : Gl X "enumerate") (hm : X.mg "enumerate" = none) (h : DE X adr Wx e m) (hs : starEach [e] X.env = [(false, eval e X.env)] := by rfl) :
    DI X adr Wx (.Tuple elts kk tpos) (.Call (.Name "enumerate" p) [e] [] pos) (iEn m) := by
  obtain ⟨t, p, q⟩ := h
  refine ⟨_, pi_enumA hg hm (pa_cons p pa_nil hs) hs, fun W σ ρ F H Q i R p => q W σ ρ F H _ i R (p.bind.imp fun d ρ1 F1 H1 s1 p v R1 r1 => ?_)⟩
  cases d with
  | lst l =>
    obtain ⟨a, vs, rfl, e2, r⟩ := r1
    refine ⟨a, vs, rfl, .inl ⟨.inl (.inl (R1.sub _ _ e2)), p F1 H1 (Same.refl _) _ R1 ?_⟩⟩
    rw [i.k] at r ⊢
    exact wlk_enum (.inl (.inl e2)) r
  | tup l =>
    obtain ⟨a, vs, rfl, e2, r⟩ := r1
    refine ⟨a, vs, rfl, .inr ⟨by rw [← i.k]; exact seqT_same R1.sub e2, p F1 H1 (Same.refl _) _ R1 ?_⟩⟩
    rw [← i.k]
    exact wlk_enumT e2 r
  | scr l =>
    obtain ⟨a, rfl, e2⟩ := r1
    refine ⟨a, _, rfl, .inl ⟨by rw [← i.k]; exact R1.sub.seq e2, p F1 H1 (Same.refl _) _ R1 ?_⟩⟩
    rw [← i.k]
    exact wlk_enum e2 (Reps.ofInts l)
  | _ => exact p.elim
/-! texts, sign by sign -/
def signs (x : Str) : List D := x.cps.toList.map fun c => D.str ⟨#[c]⟩
theorem wlk_str {K : PySem.W.Frag} {F1 : Hp} (x : Str) : Wlk K adr F1 (Its x) (signs x) where
  go := fun i d W σ ρ F H e eK eA s R => by
    have h := (List.getElem?_eq_some_iff.mp e).1
    show i < x.cps.size
    simpa [signs] using h
  yld := fun i d W σ ρ F H v H' e eK eA s R y => by
    obtain ⟨rfl, c, hc, rfl⟩ := y
    have e2 : (signs x)[i]? = some (.str ⟨#[c]⟩) := by
      unfold signs
      rw [List.getElem?_map, Array.getElem?_toList, hc]; rfl
    rw [e2] at e
    cases e
    exact ⟨F, Same.refl _, R, rfl⟩
  stop := fun W σ ρ F H eK eA s R => by
    show x.cps.size ≤ (signs x).length
    simp [signs]
def iSt (m : M D) : M (List D) := fun ρ => (m ρ).bind fun d ρ1 => match d with
  | .str x => .ok (signs x) ρ1
  | _ => .bad
theorem di_str {tg e : Expr} {m : M D} (h : DE X adr Wx e m) : DI X adr Wx tg e (iSt m) := by
  obtain ⟨t, p, q⟩ := h
  refine ⟨_, pi_str p, fun W σ ρ F H Q i R p => q W σ ρ F H _ i R (p.bind.imp fun d ρ1 F1 H1 s1 p v R1 r1 => ?_)⟩
  cases d with
  | str x => exact ⟨x, r1, p F1 H1 (Same.refl _) _ R1 (wlk_str x)⟩
  | _ => exact p.elim
end
end DL

set_option maxHeartbeats 4000000
/-! DL11: attributes; things of the def's own that change. -/
namespace DL
open PySem L2 PyProof.Rows

/-! ### a thing is rewritten -/
/-- the thing of a slot that may be changed -/
def oOf : Slot → Option O
  | .own o => some o
  | .io o => some o
  | _ => none
def withO : Slot → O → Slot
  | .own _, o => .own o
  | .io _, o => .io o
  | s, _ => s
section
variable {W : Wd} {w : Own} {σ : List (Option V)} {ρ : List Slot} {F H H' : Hp}
theorem oOf_cases {s : Slot} {o : O} (h : oOf s = some o) : s = .own o ∨ s = .io o := by
  cases s <;> simp only [oOf, reduceCtorEq] at h
  · cases h; exact .inl rfl
  · cases h; exact .inr rfl
theorem withO_io {s : Slot} {o : O} : isIo (withO s o) ↔ isIo s := by cases s <;> exact Iff.rfl
theorem WRel.own_at (R : WRel W w σ ρ F H) {i : Nat} {s : Slot} {o : O} (hi : ρ[i]? = some s) (hs : oOf s = some o) : ∃ p, σ[i]? = some (some (.ref p)) ∧ ORep W.K W.adr w i F H o p := by
  obtain ⟨ov, h1, h2⟩ := R.slots i s hi
  rcases oOf_cases hs with rfl | rfl
  · obtain ⟨p, rfl, h3⟩ := h2; exact ⟨p, h1, h3⟩
  · obtain ⟨p, rfl, h3⟩ := h2; exact ⟨p, h1, h3⟩
theorem WRel.rewrite (R : WRel W w σ ρ F H) {i : Nat} {s : Slot} {o o' : O} {p : Addr} (hi : ρ[i]? = some s) (hs : oOf s = some o) (hH : ∀ a, w a ≠ some i → H' a = H a) (hn : ∀ a, w a = some i → H' a ≠ none) (hp : σ[i]? = some (some (.ref p)))
    (ho : ORep W.K W.adr w i F H' o' p) : WRel W w σ (ρ.set i (withO s o')) F H' := by
  have hlt := (List.getElem?_eq_some_iff.mp hi).1
  have keepW : ∀ a, W.H0 a ≠ none → W.I a = none → w a ≠ some i := fun a z z2 e => by
    rcases (R.owned a i e).2.2 with q | ⟨q, _⟩
    · exact z q
    · rw [z2] at q; cases q
  refine ⟨by rw [List.length_set]; exact R.len, fun a u e => ?_, fun a z => ?_, R.old, fun a u e z => ?_, fun q hq => ?_, fun a j e => ?_, fun a u e => ?_, fun j t e => ?_⟩
  · rw [hH a (fun q => by have := (R.owned a i q).1; rw [e] at this; cases this)]; exact R.sub a u e
  · by_cases q : w a = some i
    · exact hn a q
    · rw [hH a q]; exact R.alive a z
  · rw [hH a (keepW a (by rw [e]; exact fun z => nomatch z) z)]; exact R.keep a u e z
  · obtain ⟨g1, o1, g2⟩ := R.fix q hq
    refine ⟨g1, ?_⟩
    by_cases hj : i = q.1
    · rw [← hj] at g2
      rw [hi] at g2; cases g2
      exact ⟨o', by rw [← hj, List.getElem?_set_self hlt]; rfl⟩
    · exact ⟨o1, by rw [List.getElem?_set_ne hj]; exact g2⟩
  · obtain ⟨h1, h2, h3⟩ := R.owned a j e
    refine ⟨h1, ?_, h3.imp id fun ⟨z, t, e1, e2⟩ => ?_⟩
    · by_cases q : w a = some i
      · exact hn a q
      · rw [hH a q]; exact h2
    · by_cases hj : i = j
      · subst hj
        rw [hi] at e1; cases e1
        exact ⟨z, _, List.getElem?_set_self hlt, withO_io.mpr e2⟩
      · exact ⟨z, t, by rw [List.getElem?_set_ne hj]; exact e1, e2⟩
  · obtain ⟨g1, g2, g3⟩ := R.guard a u e
    refine ⟨by rw [hH a (by rw [g3]; exact fun z => nomatch z)]; exact g1, g2, g3⟩
  · by_cases hj : i = j
    · subst hj
      rw [List.getElem?_set_self hlt] at e
      cases e
      rcases oOf_cases hs with rfl | rfl
      · exact ⟨_, hp, p, rfl, ho⟩
      · exact ⟨_, hp, p, rfl, ho⟩
    · rw [List.getElem?_set_ne hj] at e
      obtain ⟨ov, h1, h2⟩ := R.slots j t e
      refine ⟨ov, h1, h2.stay (Same.refl _) fun a z => ⟨z, fun u q => ?_⟩⟩
      rw [hH a (fun q => by rw [q] at z; exact hj (Option.some.inj z))]; exact q
theorem ERel.lst_at {i : Nat} {s : Slot} {l : List D} (R : ERel W σ ρ F H) (hi : ρ[i]? = some s) (hs : oOf s = some (.lst l)) : ∃ p vs, σ[i]? = some (some (.ref p)) ∧ H p = some (.lst vs) ∧ Reps W.K W.adr F l vs := by
  obtain ⟨w, R⟩ := R
  obtain ⟨p, h1, _, vs, h2, h3⟩ := R.own_at hi hs
  exact ⟨p, vs, h1, h2, h3⟩
theorem ERel.lst_put {i : Nat} {s : Slot} {l l' : List D} {p : Addr} {vs : List V} (R : ERel W σ ρ F H) (hi : ρ[i]? = some s) (hs : oOf s = some (.lst l)) (hp : σ[i]? = some (some (.ref p))) (r : Reps W.K W.adr F l' vs) : ERel W σ (ρ.set i (withO s (.lst l'))) F (upd H p (.lst vs)) := by
  obtain ⟨w, R⟩ := R
  obtain ⟨p', h1, hw, vs0, h2, h3⟩ := R.own_at hi hs
  rw [hp] at h1
  cases h1
  refine ⟨w, R.rewrite (o := .lst l) hi hs (fun a ha => ?_) (fun a ha => ?_) hp ⟨hw, vs, upd_same, r⟩⟩
  · exact upd_ne (fun q => by subst q; exact ha hw)
  · by_cases q : a = p
    · subst q; rw [upd_same]; exact fun z => nomatch z
    · rw [upd_ne q]; exact (R.owned a i ha).2.1
theorem ERel.obj_put {i c : Nat} {s : Slot} {fs fs' : List (Str × D)} {p dx : Addr} {fv' : List (Str × V)} (R : ERel W σ ρ F H) (hi : ρ[i]? = some s) (hs : oOf s = some (.obj c fs)) (hp : σ[i]? = some (some (.ref p))) (hn : fv'.map (·.1) = fs'.map (·.1)) (r : Reps W.K W.adr F (fs'.map (·.2)) (fv'.map (·.2))) :
    ERel W σ (ρ.set i (withO s (.obj c fs'))) F (upd H p (.ins (W.adr c) dx fv')) := by
  obtain ⟨w, R⟩ := R
  obtain ⟨p', h1, hw, dx0, vs0, h2, h3⟩ := R.own_at hi hs
  rw [hp] at h1
  cases h1
  refine ⟨w, R.rewrite (o := .obj c fs) hi hs (fun a ha => ?_) (fun a ha => ?_) hp ⟨hw, dx, fv', upd_same, hn, r⟩⟩
  · exact upd_ne (fun q => by subst q; exact ha hw)
  · by_cases q : a = p
    · subst q; rw [upd_same]; exact fun z => nomatch z
    · rw [upd_ne q]; exact (R.owned a i ha).2.1
end
def slO (ρ : List Slot) (i : Nat) : Option O := (ρ[i]?).bind oOf
theorem slO_some {ρ : List Slot} {i : Nat} {o : O} (h : slO ρ i = some o) : ∃ s, ρ[i]? = some s ∧ oOf s = some o := by
  unfold slO at h
  cases e : ρ[i]? with
  | none => rw [e] at h; cases h
  | some s => rw [e] at h; exact ⟨s, rfl, h⟩
def putS (ρ : List Slot) (i : Nat) (o : O) : List Slot := match ρ[i]? with | some s => ρ.set i (withO s o) | none => ρ
theorem putS_eq {ρ : List Slot} {i : Nat} {s : Slot} {o : O} (h : ρ[i]? = some s) : putS ρ i o = ρ.set i (withO s o) := by unfold putS; rw [h]
section
variable {X : Cx} {adr : AdrT} {Wx : WX} {pos : Pos}
/-! ### attributes -/
def fldAt (c : Nat) (f : Str) (l : List D) : Option D := ((clsNames c).zip l).lookup f
def fFld (c : Nat) (f : Str) : D → Option D
  | .obj c' l => if c' = c then fldAt c f l else none
  | _ => none
theorem lookup_rep {K : PySem.W.Frag} {F : Hp} {f : Str} {d : D} : ∀ {fs : List (Str × D)} {fv : List (Str × V)}, fv.map (·.1) = fs.map (·.1) → Reps K adr F (fs.map (·.2)) (fv.map (·.2)) → fs.lookup f = some d → ∃ v, fv.lookup f = some v ∧ Rep K adr F d v
  | [], [], _, _, h => by cases h
  | (g, x) :: fs, (g', y) :: fv, hn, ⟨v, r, e, h1, h2⟩, h => by
    simp only [List.map_cons, List.cons.injEq] at hn e
    obtain ⟨rfl, hn⟩ := hn
    obtain ⟨rfl, rfl⟩ := e
    rw [List.lookup_cons] at h ⊢
    cases q : f == g' with
    | true => rw [q] at h; cases h; exact ⟨_, rfl, h1⟩
    | false => rw [q] at h; exact lookup_rep hn h2 h
  | [], _ :: _, hn, _, _ => by cases hn
  | _ :: _, [], hn, _, _ => by cases hn
theorem zip_names {K : PySem.W.Frag} {F : Hp} {ns : List Str} {l : List D} {fv : List (Str × V)} (h1 : fv.map (·.1) = ns) (h2 : Reps K adr F l (fv.map (·.2))) : ((ns.zip l).map (·.1)) = fv.map (·.1) ∧ ((ns.zip l).map (·.2)) = l := by
  have hl : l.length = fv.length := by rw [h2.length, List.length_map]
  subst h1
  constructor
  · exact List.map_fst_zip (by rw [List.length_map]; omega)
  · exact List.map_snd_zip (by rw [List.length_map]; omega)
theorem de_fld (c : Nat) {e : Expr} {f : Str} {m : M D} (hc : Cls X.K (adr c)) (hn : NoAttr X.K (adr c) f) (h : DE X adr Wx e m) (hb : attributeBase e f X.env (eval e X.env) = eval e X.env := by rfl) : DE X adr Wx (.Attribute e f pos) (e1 (fFld c f) m) := by
  obtain ⟨t, p, q⟩ := h
  refine ⟨_, pe_fld p hb, fun W σ ρ F H Q i R p => q W σ ρ F H _ i R (p.bind.imp fun d ρ1 F1 H1 s1 p v R1 r1 => ?_)⟩
  obtain ⟨d', e, pp⟩ := opt_some p
  cases d <;> simp only [fFld, reduceCtorEq] at e
  split at e
  · rename_i c' l hcc
    subst hcc
    obtain ⟨a, dx, fv, rfl, h1, h2, h3⟩ := r1
    obtain ⟨z1, z2⟩ := zip_names h2 h3
    obtain ⟨v, e3, r3⟩ := lookup_rep (fs := (clsNames c').zip l) (fv := fv) z1.symm (by rw [z2]; exact h3) e
    rw [i.a] at h1
    exact ⟨a, adr c', dx, fv, v, rfl, R1.sub _ _ h1, hc, hn, e3, pp F1 H1 (Same.refl _) v R1 r3⟩
  · cases e
/-- .. of a thing that the def may change -/
def eFldI (c : Nat) (f : Str) (i : Nat) : M D := fun ρ => match (ρ[i]?).bind fsOf with
  | some (c', fs) => if c' = c then (match fs.lookup f with | some d => .ok d ρ | none => .bad) else .bad
  | none => .bad
theorem de_fldI (c i : Nat) {x f : Str} {p1 : Pos} (hc : Cls X.K (adr c)) (hn : NoAttr X.K (adr c) f) (hN : X.N[i]? = some x := by rfl) (hv : Vis X.env.scope x := by first | exact Or.inl rfl | exact Or.inr (Or.inl rfl) | exact Or.inr (Or.inr rfl)) (hd : (x == ("__debug__" : Str)) = false := by decide)
    (hcd : (x == ("__classdict__" : Str)) = false := by decide) (hb : attributeBase (.Name x p1) f X.env (eval (.Name x p1) X.env) = eval (.Name x p1) X.env := by rfl) : DE X adr Wx (.Attribute (.Name x p1) f pos) (eFldI c f i) := by
  refine ⟨_, pe_fld (pe_var hN hv hd hcd) hb, fun W σ ρ F H Q i' R p => ?_⟩
  unfold eFldI at p
  cases ef : (ρ[i]?).bind fsOf with
  | none => rw [ef] at p; exact p.elim
  | some z =>
    obtain ⟨c', fs⟩ := z
    rw [ef] at p
    by_cases hcc : c' = c
    · subst hcc
      simp only [if_true] at p
      obtain ⟨a, dx, fv, h1, h2, h3, h4⟩ := slot_obj R ef
      cases el : fs.lookup f with
      | none => rw [el] at p; exact p.elim
      | some d =>
        rw [el] at p
        obtain ⟨v, e3, r3⟩ := lookup_rep h3 h4 el
        rw [i'.a] at h2
        exact ⟨_, h1, a, adr c', dx, fv, v, rfl, h2, hc, hn, e3, p F H (Same.refl _) v R r3⟩
    · simp only [if_neg hcc] at p; exact p.elim
def putD (f : Str) (d : D) : List (Str × D) → List (Str × D)
  | [] => [(f, d)]
  | (g, x) :: r => if g = f then (g, d) :: r else (g, x) :: putD f d r
theorem putD_rep {K : PySem.W.Frag} {F : Hp} {f : Str} {d : D} {v : V} (rv : Rep K adr F d v) : ∀ {fs : List (Str × D)} {fv : List (Str × V)}, fv.map (·.1) = fs.map (·.1) → Reps K adr F (fs.map (·.2)) (fv.map (·.2)) →
    (putF f v fv).map (·.1) = (putD f d fs).map (·.1) ∧ Reps K adr F ((putD f d fs).map (·.2)) ((putF f v fv).map (·.2))
  | [], [], _, _ => ⟨rfl, v, [], rfl, rv, rfl⟩
  | (g, x) :: fs, (g', y) :: fv, hn, ⟨u, r, e, h1, h2⟩ => by
    simp only [List.map_cons, List.cons.injEq] at hn e
    obtain ⟨rfl, hn⟩ := hn
    obtain ⟨rfl, rfl⟩ := e
    unfold putD putF
    by_cases q : g' = f
    · rw [if_pos q, if_pos q]
      exact ⟨by simp [hn], v, _, rfl, rv, h2⟩
    · rw [if_neg q, if_neg q]
      obtain ⟨z1, z2⟩ := putD_rep rv hn h2
      exact ⟨by simp [z1], _, _, rfl, h1, z2⟩
  | [], _ :: _, hn, _ => by cases hn
  | _ :: _, [], hn, _ => by cases hn
/-- x.f = e -/
def sFldI (c : Nat) (f : Str) (i : Nat) (m : M D) : M Fl := fun ρ => (m ρ).bind fun d ρ1 => match (ρ1[i]?).bind fsOf with
  | some (c', fs) => if c' = c ∧ fs.length < 1000 then .ok .nx (putS ρ1 i (.obj c (putD f d fs))) else .bad
  | none => .bad
theorem fsOf_oOf {s : Slot} {c : Nat} {fs : List (Str × D)} (h : fsOf s = some (c, fs)) : oOf s = some (.obj c fs) := by
  cases s <;> simp only [fsOf, reduceCtorEq] at h
  · rename_i o; cases o <;> simp only [fsOf, reduceCtorEq] at h; cases h; rfl
  · rename_i o; cases o <;> simp only [fsOf, reduceCtorEq] at h; cases h; rfl
theorem ds_fldI (c i : Nat) {x f : Str} {p1 pos' : Pos} {e : Expr} {m : M D} (hc : Cls X.K (adr c)) (hn : NoAttr X.K (adr c) f) (h : DE X adr Wx e m) (hN : X.N[i]? = some x := by rfl) (hv : Vis X.env.scope x := by first | exact Or.inl rfl | exact Or.inr (Or.inl rfl) | exact Or.inr (Or.inr rfl)) (hd : (x == ("__debug__" : Str)) = false := by decide)
    (hcd : (x == ("__classdict__" : Str)) = false := by decide) (hs : swapsWith e (some (.Attribute (.Name x p1) f pos')) pos.line X.env = pure false := by rfl) : DS X adr Wx (.Assign [.Attribute (.Name x p1) f pos'] e pos) (sFldI c f i m) := by
  obtain ⟨t, p, q⟩ := h
  refine ⟨_, ps_fld (pe_var hN hv hd hcd) p hs, fun W σ ρ F H E i' R p => q W σ ρ F H _ i' R (p.bind.imp fun d ρ1 F1 H1 s1 p v R1 r1 => ?_)⟩
  cases ef : (ρ1[i]?).bind fsOf with
  | none => rw [ef] at p; exact p.elim
  | some z =>
    obtain ⟨c', fs⟩ := z
    rw [ef] at p
    by_cases hcc : c' = c ∧ fs.length < 1000
    · simp only [if_pos hcc] at p
      obtain ⟨rfl, hlen⟩ := hcc
      obtain ⟨a, dx, fv, h1, h2, h3, h4⟩ := slot_obj R1 ef
      cases es : ρ1[i]? with
      | none => rw [es] at ef; cases ef
      | some s =>
        rw [es] at ef
        have es2 : oOf s = some (.obj c' fs) := fsOf_oOf ef
        obtain ⟨z1, z2⟩ := putD_rep (f := f) r1 h3 h4
        rw [putS_eq es] at p
        have hl : fv.length = fs.length := by simpa using congrArg List.length h3
        rw [i'.a] at h2
        refine ⟨_, h1, a, adr c', dx, fv, rfl, h2, hc, hn, by omega, p F1 _ (Same.refl _) σ ?_⟩
        have R2 := R1.obj_put (dx := dx) es es2 h1 z1 z2
        rw [i'.a] at R2
        exact R2
    · simp only [if_neg hcc] at p; exact p.elim
/-! ### lists that change -/
def lstI (ρ : List Slot) (i : Nat) : Bool := match slO ρ i with | some (.lst _) => true | _ => false
theorem lstI_some {ρ : List Slot} {i : Nat} (h : lstI ρ i = true) : ∃ s l, ρ[i]? = some s ∧ oOf s = some (.lst l) := by
  unfold lstI at h
  cases e : slO ρ i with
  | none => rw [e] at h; cases h
  | some o =>
    rw [e] at h
    cases o <;> first | (cases h; done) | skip
    obtain ⟨s, h1, h2⟩ := slO_some e
    exact ⟨s, _, h1, h2⟩
/-- what a method of a list does to it -/
def lstM (i : Nat) (ms : M (List D)) (f : List D → List D → Option (D × List D)) : M D := fun ρ => if lstI ρ i = true then (ms ρ).bind fun xs ρ1 => match slO ρ1 i with
  | some (.lst l) => (match f l xs with | some (d, l') => .ok d (putS ρ1 i (.lst l')) | none => .bad)
  | _ => .bad else .bad
theorem tBM_ok {r : V → List V → Hp → VK → Prop} {f : List D → List D → Option (D × List D)} {i : Nat} {ta : TA} {ms : M (List D)} (qa : ∀ W σ ρ F H Q, In X adr W → ERel W σ ρ F H → PoL W σ F Wx Q (ms ρ) → ta σ H Q)
    (hr : ∀ (W : Wd) (F H : Hp) (p : Addr) l xs d l' vl vx (Q : V → Hp → Prop), W.K = X.K → Same F H → H p = some (.lst vl) → Reps W.K W.adr F l vl → Reps W.K W.adr F xs vx → f l xs = some (d, l') → (∀ v vs, Rep W.K W.adr F d v → Reps W.K W.adr F l' vs → Q v (upd H p (.lst vs))) → r (.ref p) vx H Q)
    {W : Wd} {σ : List (Option V)} {ρ : List Slot} {F H : Hp} {Q : V → Hp → Prop} (i' : In X adr W) (R : ERel W σ ρ F H) (p : PoD W σ F Wx Q (lstM i ms f ρ)) : tBM X.K "list" r (tVar i) ta σ H Q := by
  unfold lstM at p
  by_cases hc : lstI ρ i = true
  · rw [if_pos hc] at p
    obtain ⟨s, l, h1, h2⟩ := lstI_some hc
    obtain ⟨a, vs, z1, z2, z3⟩ := R.lst_at h1 h2
    refine ⟨_, z1, .inl ⟨rfl, vs, .inl (.inl z2)⟩, qa W σ ρ F H _ i' R (p.bind.imp fun xs ρ1 F1 H1 s1 p vx R1 r1 => ?_)⟩
    cases e : slO ρ1 i with
    | none => rw [e] at p; exact p.elim
    | some o =>
      rw [e] at p
      cases o with
      | lst l =>
        simp only at p
        cases ef : f l xs with
        | none => rw [ef] at p; exact p.elim
        | some z =>
          obtain ⟨d, l'⟩ := z
          rw [ef] at p
          obtain ⟨s', g1, g2⟩ := slO_some e
          obtain ⟨a', vs', y1, y2, y3⟩ := R1.lst_at g1 g2
          rw [z1] at y1
          cases y1
          refine hr W F1 H1 a l xs d l' vs' vx Q i'.k R1.sub y2 y3 r1 ef fun v us rv rus => ?_
          have R2 := R1.lst_put g1 g2 z1 rus
          rw [← putS_eq g1] at R2
          exact p F1 _ (Same.refl _) v R2 rv
      | _ => exact p.elim
  · rw [if_neg hc] at p; exact p.elim
def mApp : List D → List D → Option (D × List D) := fun l xs => match xs with | [x] => if l.length < 16777216 then some (.non, l ++ [x]) else none | _ => none
def mExt : List D → List D → Option (D × List D) := fun l xs => match xs with | [.lst l2] => if l.length + l2.length ≤ 16777216 then some (.non, l ++ l2) else none | _ => none
def mPopAt : List D → List D → Option (D × List D) := fun l xs => match xs with | [.int i] => if -(2 ^ 63) ≤ i ∧ i < 2 ^ 63 then (match seqIndex? i l.length with | some k => (match l[k]? with | some d => some (d, l.eraseIdx k) | none => none) | none => none) else none | _ => none
theorem Reps.eraseIdx {K : PySem.W.Frag} {F : Hp} : ∀ (n : Nat) {l : List D} {vs : List V}, Reps K adr F l vs → Reps K adr F (l.eraseIdx n) (vs.eraseIdx n)
  | n, [], _, h => by rw [show _ = [] from h]; cases n <;> rfl
  | 0, d :: l, _, ⟨v, r, e, h1, h2⟩ => by rw [e]; exact h2
  | n + 1, d :: l, _, ⟨v, r, e, h1, h2⟩ => by rw [e]; exact ⟨v, _, rfl, h1, Reps.eraseIdx n h2⟩
theorem de_app (i : Nat) {x : Str} {p1 apos cpos : Pos} {e : Expr} {ms : M (List D)} (h : DA X adr Wx [e] ms) (hN : X.N[i]? = some x := by rfl) (hv : Vis X.env.scope x := by first | exact Or.inl rfl | exact Or.inr (Or.inl rfl) | exact Or.inr (Or.inr rfl)) (hd : (x == ("__debug__" : Str)) = false := by decide)
    (hcd : (x == ("__classdict__" : Str)) = false := by decide) (hbase : attributeBase (.Name x p1) "append" X.env (eval (.Name x p1) X.env) = eval (.Name x p1) X.env := by rfl)
    (hfew : ((backTo cpos (starEach [e] X.env)).all (fun x => !x.1) && (backToKw cpos (keywordEach [] X.env)).all (fun x => x.1.isSome)
      && decide (([e]).length + ([] : List Keyword).length + (if ([] : List Keyword).isEmpty then 0 else 1) < 30)) = true := by rfl)
    (hline : (apos.endLine == cpos.line) = true := by rfl) (hs : starEach [e] X.env = (false, eval e X.env) :: starEach [] X.env := by rfl) (hplain : (backTo cpos (starEach [] X.env)).any (·.1) = false := by rfl) :
    DE X adr Wx (.Call (.Attribute (.Name x p1) "append" apos) [e] [] cpos) (lstM i ms mApp) := by
  obtain ⟨t, p, q⟩ := h
  refine ⟨_, pe_bm PySem.F.plainAttrs_list PySem.F.slot_list_append PySem.F.type_list_append mt_append (pe_var hN hv hd hcd) p hbase hfew hline hs hplain, fun W σ ρ F H Q i' R p => tBM_ok (f := mApp) q (fun W F H a l xs d l' vl vx Q hK hS h1 h2 h3 h4 k => ?_) i' R p⟩
  unfold mApp at h4
  split at h4
  · split at h4
    · rename_i y c
      cases h4
      obtain ⟨v, _, rfl, r1, rfl⟩ := h3
      exact ⟨a, vl, v, rfl, rfl, h1, by rw [← h2.length, sizeLine_eq]; exact c, k _ _ rfl (h2.append (Reps.one r1))⟩
    · cases h4
  · cases h4
theorem de_ext (i : Nat) {x : Str} {p1 apos cpos : Pos} {e : Expr} {ms : M (List D)} (h : DA X adr Wx [e] ms) (hN : X.N[i]? = some x := by rfl) (hv : Vis X.env.scope x := by first | exact Or.inl rfl | exact Or.inr (Or.inl rfl) | exact Or.inr (Or.inr rfl)) (hd : (x == ("__debug__" : Str)) = false := by decide)
    (hcd : (x == ("__classdict__" : Str)) = false := by decide) (hbase : attributeBase (.Name x p1) "extend" X.env (eval (.Name x p1) X.env) = eval (.Name x p1) X.env := by rfl)
    (hfew : ((backTo cpos (starEach [e] X.env)).all (fun x => !x.1) && (backToKw cpos (keywordEach [] X.env)).all (fun x => x.1.isSome)
      && decide (([e]).length + ([] : List Keyword).length + (if ([] : List Keyword).isEmpty then 0 else 1) < 30)) = true := by rfl)
    (hline : (apos.endLine == cpos.line) = true := by rfl) (hs : starEach [e] X.env = (false, eval e X.env) :: starEach [] X.env := by rfl) (hplain : (backTo cpos (starEach [] X.env)).any (·.1) = false := by rfl) :
    DE X adr Wx (.Call (.Attribute (.Name x p1) "extend" apos) [e] [] cpos) (lstM i ms mExt) := by
  obtain ⟨t, p, q⟩ := h
  refine ⟨_, pe_bm PySem.F.plainAttrs_list PySem.F.slot_list_extend PySem.F.type_list_extend mt_extend (pe_var hN hv hd hcd) p hbase hfew hline hs hplain, fun W σ ρ F H Q i' R p => tBM_ok (f := mExt) q (fun W F H a l xs d l' vl vx Q hK hS h1 h2 h3 h4 k => ?_) i' R p⟩
  unfold mExt at h4
  split at h4
  · split at h4
    · rename_i y c
      cases h4
      obtain ⟨v, _, rfl, ⟨b, us, rfl, g1, g2⟩, rfl⟩ := h3
      exact ⟨a, b, vl, us, rfl, rfl, h1, hS _ _ g1, by rw [← h2.length, ← g2.length, sizeLine_eq]; exact c, k _ _ rfl (h2.append g2)⟩
    · cases h4
  · cases h4
theorem de_popAt (i : Nat) {x : Str} {p1 apos cpos : Pos} {e : Expr} {ms : M (List D)} (h : DA X adr Wx [e] ms) (hN : X.N[i]? = some x := by rfl) (hv : Vis X.env.scope x := by first | exact Or.inl rfl | exact Or.inr (Or.inl rfl) | exact Or.inr (Or.inr rfl)) (hd : (x == ("__debug__" : Str)) = false := by decide)
    (hcd : (x == ("__classdict__" : Str)) = false := by decide) (hbase : attributeBase (.Name x p1) "pop" X.env (eval (.Name x p1) X.env) = eval (.Name x p1) X.env := by rfl)
    (hfew : ((backTo cpos (starEach [e] X.env)).all (fun x => !x.1) && (backToKw cpos (keywordEach [] X.env)).all (fun x => x.1.isSome)
      && decide (([e]).length + ([] : List Keyword).length + (if ([] : List Keyword).isEmpty then 0 else 1) < 30)) = true := by rfl)
    (hline : (apos.endLine == cpos.line) = true := by rfl) (hs : starEach [e] X.env = (false, eval e X.env) :: starEach [] X.env := by rfl) (hplain : (backTo cpos (starEach [] X.env)).any (·.1) = false := by rfl) :
    DE X adr Wx (.Call (.Attribute (.Name x p1) "pop" apos) [e] [] cpos) (lstM i ms mPopAt) := by
  obtain ⟨t, p, q⟩ := h
  refine ⟨_, pe_bm PySem.F.plainAttrs_list PySem.F.slot_list_pop PySem.F.type_list_pop mt_popAt (pe_var hN hv hd hcd) p hbase hfew hline hs hplain, fun W σ ρ F H Q i' R p => tBM_ok (f := mPopAt) q (fun W F H a l xs d l' vl vx Q hK hS h1 h2 h3 h4 k => ?_) i' R p⟩
  unfold mPopAt at h4
  split at h4
  · split at h4
    · rename_i y c
      split at h4
      · rename_i j ej
        split at h4
        · rename_i d' ed
          cases h4
          obtain ⟨v, _, rfl, r1, rfl⟩ := h3
          obtain ⟨z, ez, rz⟩ := h2.get ed
          exact ⟨a, vl, y, j, z, rfl, by rw [show v = V.int y from r1], h1, c.1, c.2, by rw [← h2.length]; exact ej, ez, k _ _ rz (h2.eraseIdx _)⟩
        · cases h4
      · cases h4
    · cases h4
  · cases h4
/-- xs[e] = e' -/
def gSetL (i : Nat) (m : M D) (mv : M D) : M Fl := fun ρ => (mv ρ).bind fun d ρ1 => if lstI ρ1 i = true then (m ρ1).bind fun k ρ2 => (match k, slO ρ2 i with
  | .int k, some (.lst l) => (match ixN l.length k with | some j => .ok .nx (putS ρ2 i (.lst (l.set j d))) | none => .bad)
  | _, _ => .bad) else .bad
theorem ds_setL (i : Nat) {x : Str} {p1 p2 : Pos} {e ei : Expr} {m mv : M D} (hvl : DE X adr Wx e mv) (hix : DE X adr Wx ei m) (hN : X.N[i]? = some x := by rfl) (hv : Vis X.env.scope x := by first | exact Or.inl rfl | exact Or.inr (Or.inl rfl) | exact Or.inr (Or.inr rfl)) (hd : (x == ("__debug__" : Str)) = false := by decide)
    (hcd : (x == ("__classdict__" : Str)) = false := by decide)
    (ha : ∀ v, assign (.Subscript (.Name x p1) ei p2) X.env v = (do
      let ov ← holding [v] (eval (.Name x p1) X.env)
      let iv ← holding [v, ov] (eval ei X.env)
      standAt p2
      holding [v, ov, iv] (setItem ov iv v)
      release [v, ov, iv] []) := by intro _; rfl)
    (hs : swapsWithSole [.Subscript (.Name x p1) ei p2] e pos.line X.env = pure false := by rfl) (hw : swappedStores [.Subscript (.Name x p1) ei p2] e X.env = pure none := by rfl) (h1 : (assignEach [.Subscript (.Name x p1) ei p2] X.env).map (·.2) = [assign (.Subscript (.Name x p1) ei p2) X.env] := by rfl) :
    DS X adr Wx (.Assign [.Subscript (.Name x p1) ei p2] e pos) (gSetL i m mv) := by
  obtain ⟨tv, pv, qv⟩ := hvl
  obtain ⟨ti, pi, qi⟩ := hix
  refine ⟨_, ps_asg pv (pg_sub (pe_var hN hv hd hcd) pi set_list ha) hs hw h1, fun W σ ρ F H E i' R p => qv W σ ρ F H _ i' R (p.bind.imp fun d ρ1 F1 H1 s1 p v R1 r1 => ?_)⟩
  by_cases hc : lstI ρ1 i = true
  · rw [if_pos hc] at p
    obtain ⟨s, l, g1, g2⟩ := lstI_some hc
    obtain ⟨a, vs, z1, z2, z3⟩ := R1.lst_at g1 g2
    refine ⟨_, z1, qi W σ ρ1 F1 H1 _ i' R1 (p.bind.imp fun k ρ2 F2 H2 s2 p u R2 r2 => ?_)⟩
    cases k <;> first | exact p.elim | skip
    rename_i k
    cases e : slO ρ2 i with
    | none => rw [e] at p; exact p.elim
    | some o =>
      rw [e] at p
      cases o with
      | lst l =>
        simp only at p
        cases ej : ixN l.length k with
        | none => rw [ej] at p; exact p.elim
        | some j =>
          rw [ej] at p
          obtain ⟨s', y1, y2⟩ := slO_some e
          obtain ⟨a', vs', y3, y4, y5⟩ := R2.lst_at y1 y2
          rw [z1] at y3
          cases y3
          have R3 := R2.lst_put y1 y2 z1 (Reps.set (Rep.mono s2 _ _ r1) j y5)
          rw [← putS_eq y1] at R3
          exact ⟨a, vs', k, j, rfl, r2, y4, by rw [← y5.length]; exact ej, p F2 _ (Same.refl _) σ R3⟩
      | _ => exact p.elim
  · rw [if_neg hc] at p; exact p.elim
end
end DL

set_option maxHeartbeats 4000000
/-! DL12: several names at once; looks at what changes; properties, len, == of own classes. -/
namespace DL
open PySem L2 PyProof.Rows
/-! ### a value kept aside while another is reckoned -/
def Wd.gh (W : Wd) (p : Addr) (h : HO) : Wd := { W with G := upd W.G p h }
/-- a thing at one address -/
def O1 : O → Prop
  | .lst _ => True
  | .obj _ _ => True
  | _ => False
instance : DecidablePred O1 := fun o => by cases o <;> unfold O1 <;> infer_instance
def OAt (K : PySem.W.Frag) (adr : AdrT) (F : Hp) : O → HO → Prop
  | .lst l, h => ∃ vs, h = .lst vs ∧ Reps K adr F l vs
  | .obj c fs, h => ∃ dx fv, h = .ins (adr c) dx fv ∧ fv.map (·.1) = fs.map (·.1) ∧ Reps K adr F (fs.map (·.2)) (fv.map (·.2))
  | _, _ => False
section
variable {W : Wd} {w : Own} {σ : List (Option V)} {ρ : List Slot} {F F' H H' : Hp}
theorem OAt.mono {K : PySem.W.Frag} {adr : AdrT} (s : Same F F') : ∀ {o : O} {h : HO}, OAt K adr F o h → OAt K adr F' o h
  | .lst l, _, ⟨vs, e, r⟩ => ⟨vs, e, Reps.mono s _ _ r⟩
  | .obj c fs, _, ⟨dx, fv, e, n, r⟩ => ⟨dx, fv, e, n, Reps.mono s _ _ r⟩
theorem ERel.hold {v : V} {o : O} (R : ERel W (σ ++ [some v]) (ρ ++ [.own o]) F H) (ho : O1 o) : ∃ p h, v = .ref p ∧ ERel (W.gh p h) σ ρ F H ∧ OAt W.K W.adr F o h ∧ W.G p = none ∧ W.H0 p = none := by
  obtain ⟨w, R⟩ := R
  have hl : σ.length = ρ.length := by
    have := R.len
    rw [List.length_append, List.length_append] at this
    simpa using this
  have el : (ρ ++ [Slot.own o])[ρ.length]? = some (.own o) := by rw [List.getElem?_append_right (Nat.le_refl _)]; simp
  have ev : (σ ++ [some v])[ρ.length]? = some (some v) := by rw [← hl, List.getElem?_append_right (Nat.le_refl _)]; simp
  obtain ⟨ov, h1, p, h2, h3⟩ := R.slots _ _ el
  rw [ev] at h1
  cases h1
  cases h2
  have key : w p = some ρ.length ∧ ∃ h, H p = some h ∧ OAt W.K W.adr F o h := by
    cases o with
    | lst l => obtain ⟨e, vs, g1, g2⟩ := h3; exact ⟨e, _, g1, vs, rfl, g2⟩
    | obj c fs => obtain ⟨e, dx, fv, g1, g2, g3⟩ := h3; exact ⟨e, _, g1, dx, fv, rfl, g2, g3⟩
    | dK _ => exact ho.elim
    | dT _ => exact ho.elim
    | bag _ _ _ _ => exact ho.elim
  obtain ⟨hw, h, hp, hO⟩ := key
  have R0 := R.pop fun q hq => by
    obtain ⟨_, o', h2⟩ := R.fix q hq
    have h3 := (List.getElem?_eq_some_iff.mp h2).1
    rw [List.length_append] at h3
    simp at h3
    rcases Nat.lt_or_eq_of_le (Nat.le_of_lt_succ h3) with h4 | h4
    · exact h4
    · rw [h4, el] at h2; cases h2
  obtain ⟨g1, g2, g3⟩ := R.owned p _ hw
  have h0 : W.H0 p = none := by
    rcases g3 with z | ⟨_, s, z1, z2⟩
    · exact z
    · rw [el] at z1; cases z1; exact z2.elim
  have hG : W.G p = none := by
    cases q : W.G p with
    | none => rfl
    | some u => have := (R.guard p u q).2.2; rw [hw] at this; cases this
  refine ⟨p, h, rfl, ⟨_, R0.len, R0.sub, R0.alive, R0.old, R0.keep, R0.fix, R0.owned, fun a u e => ?_, R0.slots⟩, hO, hG, h0⟩
  by_cases ha : a = p
  · subst ha
    have e : upd W.G a h a = some u := e
    rw [upd_same] at e
    cases e
    exact ⟨hp, g1, by simp [hw]⟩
  · have e : upd W.G p h a = some u := e
    rw [upd_ne ha] at e
    exact R0.guard a u e
theorem ERel.unhold {p : Addr} {h : HO} {o : O} (R : ERel (W.gh p h) σ ρ F H) (hO : OAt W.K W.adr F o h) (hG : W.G p = none) (h0 : W.H0 p = none) : ERel W (σ ++ [some (.ref p)]) (ρ ++ [.own o]) F H := by
  obtain ⟨w, R⟩ := R
  obtain ⟨g1, g2, g3⟩ := R.guard p h upd_same
  have R3 : WRel W w σ ρ F H := by
    refine ⟨R.len, R.sub, R.alive, R.old, R.keep, R.fix, R.owned, fun a o e => R.guard a o ?_, R.slots⟩
    show upd W.G p h a = some o
    rw [upd_ne (fun q => by subst q; rw [hG] at e; cases e)]
    exact e
  refine ⟨fun a => if a = p then some ρ.length else w a, R3.pushOwn (fun a i e => ?_) (fun a i e => ?_) ?_⟩
  · rw [if_neg (fun q => by subst q; rw [g3] at e; cases e)]; exact e
  · by_cases ha : a = p
    · subst ha
      rw [if_pos rfl] at e
      exact .inr ⟨(Option.some.inj e).symm, g2, (by rw [g1]; exact fun z => nomatch z), h0, hG⟩
    · rw [if_neg ha] at e; exact .inl e
  · cases o with
    | lst l => obtain ⟨vs, rfl, r⟩ := hO; exact ⟨if_pos rfl, vs, g1, r⟩
    | obj c fs => obtain ⟨dx, fv, rfl, n, r⟩ := hO; exact ⟨if_pos rfl, dx, fv, g1, n, r⟩
    | dK _ => exact hO.elim
    | dT _ => exact hO.elim
    | bag _ _ _ _ => exact hO.elim
/-- a list of values, of which some are the def's own -/
def heldOk : Slot → Bool
  | .frz _ => true
  | .own o => decide (O1 o)
  | _ => false
theorem setS_push {s2 s1 : Slot} {ρ3 : List Slot} {i : Nat} (h : setS ρ i s1 = some ρ3) : setS (ρ ++ [s2]) i s1 = some (ρ3 ++ [s2]) := by
  have h0 := h
  obtain ⟨rfl, hi, hio⟩ := setS_some h
  unfold setS at h0 ⊢
  rw [List.getElem?_append_left hi]
  cases e : ρ[i]? with
  | none => rw [List.getElem?_eq_none_iff] at e; omega
  | some z => cases z <;> first | (exact absurd e (hio _)) | (rw [e] at h0; cases h0; done) | (simp only []; rw [List.set_append_left _ _ hi])
theorem ERel.store_below {v1 : V} {v2 : Option V} {s1 s2 : Slot} {ρ3 : List Slot} {i : Nat} (R : ERel W (σ ++ [v2] ++ [some v1]) (ρ ++ [s2] ++ [s1]) F H) (hs : ¬ isIo s1) (h : setS ρ i s1 = some ρ3) : ERel W (σ.set i (some v1) ++ [v2]) (ρ3 ++ [s2]) F H := by
  have R2 := R.store hs (setS_push (s2 := s2) h)
  have hi := (setS_some h).2.1
  have hl : σ.length = ρ.length := by
    have := R.len
    simp at this
    exact this
  rw [List.set_append_left _ _ (by omega)] at R2
  exact R2
/-- put aside: what is held, and how it comes back -/
theorem ERel.aside {v : V} {s : Slot} (R : ERel W (σ ++ [some v]) (ρ ++ [s]) F H) (hs : heldOk s = true) : ∃ W' : Wd, W'.K = W.K ∧ W'.adr = W.adr ∧ ERel W' σ ρ F H ∧ ∀ σ' ρ' F' H', Same F F' → ERel W' σ' ρ' F' H' → ERel W (σ' ++ [some v]) (ρ' ++ [s]) F' H' := by
  cases s with
  | no => cases hs
  | io _ => cases hs
  | hnd _ _ => cases hs
  | frz d =>
    rcases R.popD (fun p hp => by
      obtain ⟨w, R⟩ := R
      obtain ⟨_, o, h2⟩ := R.fix p hp
      have h3 := (List.getElem?_eq_some_iff.mp h2).1
      rw [List.length_append] at h3
      simp at h3
      rcases Nat.lt_or_eq_of_le (Nat.le_of_lt_succ h3) with h4 | h4
      · exact h4
      · rw [h4, List.getElem?_append_right (Nat.le_refl _)] at h2; simp at h2) (fun z => nomatch z) (fun z => z) with ⟨d', e, R2, r⟩ | ⟨o, e, _⟩
    · cases e
      exact ⟨W, rfl, rfl, R2, fun σ' ρ' F' H' s' R' => R'.pushFrz (Rep.mono s' _ _ r)⟩
    · cases e
  | own o =>
    obtain ⟨p, h, rfl, R2, hO, hG, h0⟩ := R.hold (of_decide_eq_true hs)
    exact ⟨W.gh p h, rfl, rfl, R2, fun σ' ρ' F' H' s' R' => R'.unhold (hO.mono s') hG h0⟩
end
section
variable {X : Cx} {adr : AdrT} {Wx : WX} {pos : Pos}
/-- the exceptions do not lean on what is held -/
def noXS {α : Type} (m : M α) : M α := fun ρ => noX (m ρ)
theorem noX_of {α : Type} {W W' : Wd} {F : Hp} {Wx : WX} {G G' : α → List Slot → Hp → Hp → Prop} : ∀ {r : Res α}, Po W F Wx G (noX r) → (∀ a ρ F' H', Same F F' → G a ρ F' H' → G' a ρ F' H') → Po W' F Wx G' r
  | .bad, h, _ => h
  | .ok _ _, h, g => fun F2 H2 s2 => g _ _ F2 H2 s2 (h F2 H2 s2)
  | .exc _ _ _, h, _ => h.elim
def sPar (i j : Nat) (m1 m2 : M Slot) : M Fl := fun ρ => (m1 ρ).bind fun s1 ρ1 => if heldOk s1 = true then (noX (m2 ρ1)).bind fun s2 ρ2 => optS ((setS ρ2 i s1).bind fun ρ3 => setS ρ3 j s2) else .bad
theorem held_io {s : Slot} (h : heldOk s = true) : ¬ isIo s := by cases s <;> first | (intro z; exact z) | cases h
theorem ds_par (i j : Nat) {x y : Str} {a b : Expr} {px py pt : Pos} {kt k2 : Nat} {pt2 : Pos} {m1 m2 : M Slot} (hc : X.calm = true) (hN : X.N.Nodup) (h1 : DX X adr Wx a m1) (h2 : DX X adr Wx b m2) (hi : X.N[i]? = some x := by rfl) (hj : X.N[j]? = some y := by rfl) (hij : i ≠ j := by decide)
    (hx : X.env.scope.names.lookup x = some .local := by rfl) (hy : X.env.scope.names.lookup y = some .local := by rfl) (hst : starEach [a, b] X.env = (false, eval a X.env) :: starEach [b] X.env := by rfl) (hst2 : starEach [b] X.env = (false, eval b X.env) :: starEach [] X.env := by rfl)
    (hw : swappedStores [.Tuple [.Name x px, .Name y py] kt pt] (.Tuple [a, b] k2 pt2) X.env = pure (some [x, y]) := by rfl)
    (hs : swapsWithSole [.Tuple [.Name x px, .Name y py] kt pt] (.Tuple [a, b] k2 pt2) pos.line X.env = pure false := by rfl) :
    DS X adr Wx (.Assign [.Tuple [.Name x px, .Name y py] kt pt] (.Tuple [a, b] k2 pt2) pos) (sPar i j m1 m2) := by
  obtain ⟨t1, p1, q1⟩ := h1
  obtain ⟨t2, p2, q2⟩ := h2
  refine ⟨_, ps_par hc hN hi hj hij hx hy (pa_cons p1 (pa_cons p2 pa_nil hst2) hst) hw hs, fun W σ ρ F H E i' R p => q1 W σ ρ F H _ i' R (p.bind.imp fun s1 ρ1 F1 H1 sF p v1 R1 g1 g2 => ?_)⟩
  by_cases hh : heldOk s1 = true
  · rw [if_pos hh] at p
    obtain ⟨W', eK, eA, R1', back⟩ := R1.aside hh
    refine q2 W' σ ρ1 F1 H1 _ ⟨eK.trans i'.k, eA.trans i'.a⟩ R1' ?_
    cases e : m2 ρ1 with
    | bad => rw [e] at p; exact p.elim
    | exc c d ρ => rw [e] at p; exact p.elim
    | ok s2 ρ2 =>
      rw [e] at p
      simp only [noX, Res.bind_ok] at p
      obtain ⟨ρ4, e4, p⟩ := optS_some p
      intro F2 H2 s2F v2 R2 k1 k2
      cases e3 : setS ρ2 i s1 with
      | none => rw [e3] at e4; cases e4
      | some ρ3 =>
        rw [e3] at e4
        have R3 := (back _ _ F2 H2 s2F R2).store_below (held_io hh) e3
        have R4 := R3.store k1 e4
        exact ⟨v1, v2, rfl, p F2 H2 s2F _ R4⟩
  · rw [if_neg hh] at p; exact p.elim
def sPar3 (i j l : Nat) (m1 m2 m3 : M Slot) : M Fl := fun ρ => (m1 ρ).bind fun s1 ρ1 => if heldOk s1 = true then (noX (m2 ρ1)).bind fun s2 ρ2 => (if heldOk s2 = true then (noX (m3 ρ2)).bind fun s3 ρ3 => optS ((setS ρ3 j s2).bind fun ρ4 => (setS ρ4 i s1).bind fun ρ5 => setS ρ5 l s3) else .bad) else .bad
theorem ds_par3 (i j l : Nat) {x y z : Str} {a b c : Expr} {px py pz pt : Pos} {kt k2 : Nat} {pt2 : Pos} {m1 m2 m3 : M Slot} (hc : X.calm = true) (hN : X.N.Nodup) (h1 : DX X adr Wx a m1) (h2 : DX X adr Wx b m2) (h3 : DX X adr Wx c m3) (hi : X.N[i]? = some x := by rfl) (hj : X.N[j]? = some y := by rfl) (hl : X.N[l]? = some z := by rfl)
    (hij : i ≠ j := by decide) (hil : i ≠ l := by decide) (hjl : j ≠ l := by decide)
    (hx : X.env.scope.names.lookup x = some .local := by rfl) (hy : X.env.scope.names.lookup y = some .local := by rfl) (hz : X.env.scope.names.lookup z = some .local := by rfl)
    (hst : starEach [a, b, c] X.env = (false, eval a X.env) :: starEach [b, c] X.env := by rfl) (hst2 : starEach [b, c] X.env = (false, eval b X.env) :: starEach [c] X.env := by rfl) (hst3 : starEach [c] X.env = (false, eval c X.env) :: starEach [] X.env := by rfl)
    (hw : swappedStores [.Tuple [.Name x px, .Name y py, .Name z pz] kt pt] (.Tuple [a, b, c] k2 pt2) X.env = pure (some [x, y, z]) := by rfl)
    (hs : swapsWithSole [.Tuple [.Name x px, .Name y py, .Name z pz] kt pt] (.Tuple [a, b, c] k2 pt2) pos.line X.env = pure false := by rfl) :
    DS X adr Wx (.Assign [.Tuple [.Name x px, .Name y py, .Name z pz] kt pt] (.Tuple [a, b, c] k2 pt2) pos) (sPar3 i j l m1 m2 m3) := by
  obtain ⟨t1, p1, q1⟩ := h1
  obtain ⟨t2, p2, q2⟩ := h2
  obtain ⟨t3, p3, q3⟩ := h3
  refine ⟨_, ps_par3 hc hN hi hj hl hij hil hjl hx hy hz (pa_cons p1 (pa_cons p2 (pa_cons p3 pa_nil hst3) hst2) hst) hw hs, fun W σ ρ F H E i' R p => q1 W σ ρ F H _ i' R (p.bind.imp fun s1 ρ1 F1 H1 sF p v1 R1 g1 g2 => ?_)⟩
  by_cases hh : heldOk s1 = true
  · rw [if_pos hh] at p
    obtain ⟨W', eK, eA, R1', back⟩ := R1.aside hh
    refine q2 W' σ ρ1 F1 H1 _ ⟨eK.trans i'.k, eA.trans i'.a⟩ R1' ?_
    cases e : m2 ρ1 with
    | bad => rw [e] at p; exact p.elim
    | exc c d ρ => rw [e] at p; exact p.elim
    | ok s2 ρ2 =>
      rw [e] at p
      simp only [noX, Res.bind_ok] at p
      intro F2 H2 s2F v2 R2 k1 k2
      by_cases hh2 : heldOk s2 = true
      · rw [if_pos hh2] at p
        obtain ⟨W'', eK2, eA2, R2', back2⟩ := R2.aside hh2
        refine q3 W'' σ ρ2 F2 H2 _ ⟨(eK2.trans eK).trans i'.k, (eA2.trans eA).trans i'.a⟩ R2' ?_
        cases e5 : m3 ρ2 with
        | bad => rw [e5] at p; exact p.elim
        | exc c d ρ => rw [e5] at p; exact p.elim
        | ok s3 ρ3 =>
          rw [e5] at p
          simp only [noX, Res.bind_ok] at p
          obtain ⟨ρ6, e6, p⟩ := optS_some p
          intro F3 H3 s3F v3 R3 k3 k4
          cases e7 : setS ρ3 j s2 with
          | none => rw [e7] at e6; cases e6
          | some ρ4 =>
            rw [e7] at e6
            simp only [Option.bind_some] at e6
            cases e8 : setS ρ4 i s1 with
            | none => rw [e8] at e6; cases e6
            | some ρ5 =>
              rw [e8] at e6
              have R4 := (back2 _ _ F3 H3 s3F R3).store_below (held_io hh2) e7
              have R5 := (back _ _ F3 H3 (s2F.trans s3F) R4).store_below (held_io hh) e8
              have R6 := R5.store k3 e6
              rw [List.set_comm _ _ (Ne.symm hij)] at R6
              exact ⟨v1, v2, v3, rfl, p F3 H3 (s2F.trans s3F) _ R6⟩
      · rw [if_neg hh2] at p; exact p.elim
  · rw [if_neg hh] at p; exact p.elim
/-! ### looks at a list that changes -/
def eLenI (i : Nat) : M D := fun ρ => match slO ρ i with
  | some (.lst l) => .ok (.int l.length) ρ
  | _ => .bad
def eIxI (i : Nat) (m : M D) : M D := fun ρ => if lstI ρ i = true then (m ρ).bind fun k ρ1 => (match k, slO ρ1 i with
  | .int k, some (.lst l) => opt (L2.atI l k) ρ1
  | _, _ => .bad) else .bad
theorem de_lenI (i : Nat) {x : Str} {p1 p : Pos} (hg : Gl X "len") (hm : X.mg "len" = none) (hN : X.N[i]? = some x := by rfl) (hv : Vis X.env.scope x := by first | exact Or.inl rfl | exact Or.inr (Or.inl rfl) | exact Or.inr (Or.inr rfl)) (hd : (x == ("__debug__" : Str)) = false := by decide)
    (hcd : (x == ("__classdict__" : Str)) = false := by decide) (he : starEach [.Name x p1] X.env = (false, eval (.Name x p1) X.env) :: starEach [] X.env := by rfl) (hpl : (backTo pos (starEach [] X.env)).any (·.1) = false := by rfl) : DE X adr Wx (.Call (.Name "len" p) [.Name x p1] [] pos) (eLenI i) := by
  refine ⟨_, pe_callB call_len hg hm PyProof.Rows.Boot.len (pa_cons (pe_var hN hv hd hcd) pa_nil he) (by decide) (by decide) he hpl, fun W σ ρ F H Q i' R p => ?_⟩
  unfold eLenI at p
  cases e : slO ρ i with
  | none => rw [e] at p; exact p.elim
  | some o =>
    rw [e] at p
    cases o with
    | lst l =>
      obtain ⟨s, g1, g2⟩ := slO_some e
      obtain ⟨a, vs, z1, z2, z3⟩ := R.lst_at g1 g2
      exact ⟨_, z1, _, _, rfl, .inl ⟨vs, .inl (.inl z2), rfl⟩, by rw [← z3.length]; exact p F H (Same.refl _) _ R rfl⟩
    | _ => exact p.elim
theorem de_ixI (i : Nat) {x : Str} {p1 : Pos} {b : Expr} {m : M D} (h : DE X adr Wx b m) (hN : X.N[i]? = some x := by rfl) (hv : Vis X.env.scope x := by first | exact Or.inl rfl | exact Or.inr (Or.inl rfl) | exact Or.inr (Or.inr rfl)) (hd : (x == ("__debug__" : Str)) = false := by decide)
    (hcd : (x == ("__classdict__" : Str)) = false := by decide) (hs : PlainIx b := by exact fun _ _ => rfl) : DE X adr Wx (.Subscript (.Name x p1) b pos) (eIxI i m) := by
  obtain ⟨t, p, q⟩ := h
  refine ⟨_, pe_ix ix_D (pe_var hN hv hd hcd) p hs, fun W σ ρ F H Q i' R p => ?_⟩
  unfold eIxI at p
  by_cases hc : lstI ρ i = true
  · rw [if_pos hc] at p
    obtain ⟨s, l, g1, g2⟩ := lstI_some hc
    obtain ⟨a, vs, z1, z2, z3⟩ := R.lst_at g1 g2
    refine ⟨_, z1, q W σ ρ F H _ i' R (p.bind.imp fun k ρ1 F1 H1 s1 p u R1 r1 => ?_)⟩
    cases k <;> first | exact p.elim | skip
    rename_i k
    cases e : slO ρ1 i with
    | none => rw [e] at p; exact p.elim
    | some o =>
      rw [e] at p
      cases o with
      | lst l =>
        simp only at p
        obtain ⟨d, e2, p⟩ := opt_some p
        obtain ⟨s', y1, y2⟩ := slO_some e
        obtain ⟨a', vs', y3, y4, y5⟩ := R1.lst_at y1 y2
        rw [z1] at y3
        cases y3
        obtain ⟨v, e3, r3⟩ := y5.atI e2
        exact .inl (.inl ⟨a, vs', k, v, rfl, r1, .inl (.inl y4), e3, p F1 H1 (Same.refl _) v R1 r3⟩)
      | _ => exact p.elim
  · rw [if_neg hc] at p; exact p.elim
end
end DL

set_option maxHeartbeats 4000000
/-! DL13: ==, !=, len, isinstance, properties of own classes. -/
namespace PySem.W
open PySem PySem.Calls PyProof.Rows Builtin
section
variable {prog : Program} {w : World} {A : Around} {E : Value → Shared → Prop} {s : Shared} {K : Frag} {x C L f : Addr} {h₀ : Heap} {m : Str → Option Value} {ox : Obj} {od : Option Obj} {b tb : Value}
theorem objNe_K (hu : A.units < cLine) (X : K.In s.heap) (I : InstAt s.heap x ox C od) (hs : findIn K (.ref C) "__eq__" = some (some (.ref f))) (hf : isFn K (.ref f) = true) {Q : Fin → Shared → Prop}
    (hcall : wpAny (model prog w) A (call (.ref f) [.ref x, b]) (fun v s' => ∃ r, v = .bool r ∧ Q (.done (.ret (.bool (!r)))) s') E s) :
    wpAny (model prog w) A (Builtin.«object.__ne__» ⟨[.ref x, b], []⟩) Q E s := by
  obtain ⟨h, g, d, t, os⟩ := s
  unfold Builtin.«object.__ne__»
  repeat (first
    | with_reducible refine wpAny_cRoomFor hu ?_
    | (refine wpAny_bind (m := callSpecialIfBound? (.ref x) (Str.ofString "__eq__") [b])
        (ifBound_K (s := ⟨h, g, d, t, os⟩) X I hs hf (wpAny_mono hcall (fun r s' hr => by
          obtain ⟨b, rfl, hq⟩ := hr
          repeat (first | exact hq | exact wpAny_pure hq | exact wpAny_truthy_bool hq | (refine wpAny_bind (m := truthy (.bool _)) (wpAny_truthy_bool ?_)) | wp_step)) fun _ _ e => e)))
    | wp_step)
theorem check_ne_K {M : Model} {rest : List Value} {Q : Unit → Shared → Prop} (X : K.In s.heap) (I : InstAt s.heap x ox C od) (hm : mroIn K C (.type "object") = some true) (ha : argsOk "object.__ne__" ⟨.ref x :: rest, []⟩) (hq : Q () s) :
    wpAny M A (checkBuiltinCall "object.__ne__" ⟨.ref x :: rest, []⟩) Q E s := by
  have L0 := I.type (M := M)
  have L1 := looks_mroIn (M := M) X hm
  simp only [checkBuiltinCall, F.cmpKind_ne, F.cmpSplit_ne]
  refine wpAny_bind ?_
  unfold isInstance
  refine wpAny_bind (L0.here (L1.here ?_))
  cases hsig : Manifest.signature? "object.__ne__" with
  | none => exact wpAny_pure hq
  | some sig =>
    simp only [argsOk, hsig] at ha
    have h2 : Bind.checkArgs "object.__ne__" sig ⟨.ref x :: rest, []⟩ = pure () := ha
    show wpAny M A (Bind.checkArgs "object.__ne__" sig ⟨.ref x :: rest, []⟩) Q E _
    rw [h2]
    exact wpAny_pure hq
theorem ifBound_B {M : Model} {B id : String} {name : Str} {args : List Value} {Q : Option Value → Shared → Prop} (X : K.In s.heap) (I : InstAt s.heap x ox C od) (hs : findIn K (.ref C) name = some (some (.builtin id))) (S : Slot B name id)
    (h : wpAny M A (call (.builtin id) (.ref x :: args)) (fun v => Q (some v)) E s) : wpAny M A (callSpecialIfBound? (.ref x) name args) Q E s := by
  simp only [callSpecialIfBound?, bindSpecialIfBound?]
  refine wpAny_holding (wpAny_bind (wpAny_bind (wpAny_bind (I.type.here ((looks_findIn X hs).here ?_)))))
  simp only [S.bind]
  refine wpAny_bind (wpAny_askSetting (wpAny_ite ?_))
  have fin : wpAny M A (call (.builtin id) ([.ref x] ++ args) >>= fun v => pure (some v)) Q E s := wpAny_bind (wpAny_mono h (fun v s' h' => wpAny_pure h') fun _ _ h' => h')
  split
  · exact wpAny_bind (wpAny_pure (wpAny_pure fin))
  · exact wpAny_tryCatch (wpAny_bind (wpAny_pure (wpAny_pure fin)))
/-- x != b, by the class's own == -/
theorem ne_own_K {Q : Value → Shared → Prop} (hu : A.units + 1 < cLine) (F₀ : Fr h₀ L s.heap m) (X₀ : K.In h₀) (I : InstAt s.heap x ox C od) (hb : Looks (model prog w) s.heap (typeOf b) tb) (hn : notFirst K C tb = true)
    (hne : findIn K (.ref C) "__ne__" = some (some (.builtin "object.__ne__"))) (hs : findIn K (.ref C) "__eq__" = some (some (.ref f))) (hf : isFn K (.ref f) = true) (hm : mroIn K C (.type "object") = some true)
    (h : wpAny (model prog w) A.in1 (call (.ref f) [.ref x, b]) (fun v s' => ∃ r, v = .bool r ∧ Q (.bool (!r)) s') E s) : wpAny (model prog w) A (richCompare .NotEq (.ref x) b) Q E s := by
  have X := X₀.keeps F₀.keep
  have one : wpAny (model prog w) A (tryCompare (.ref x) (cmpInfo .NotEq).2.1 b) (fun r s' => ∃ v, r = some v ∧ Q v s') E s := by
    show wpAny (model prog w) A (tryCompare (.ref x) "__ne__" b) (fun r s' => ∃ v, r = some v ∧ Q v s') E s
    unfold tryCompare
    have bi : wpAny (model prog w) A (call (.builtin "object.__ne__") [.ref x, b]) (fun v s' => ∃ r, v = .bool r ∧ Q (.bool r) s') E s := by
      refine wpAny_call (codeAny_call_builtin F.cmp_object.ne.plain F.cmpEntry_ne (check_ne_K X I hm (F.cmpArgs_ne _ _) (objNe_K (A := A.in1) hu X I hs hf (wpAny_mono h (fun v s' hv => ?_) fun _ _ e => e))))
      obtain ⟨r, rfl, hq⟩ := hv
      first | exact ⟨r, rfl, !r, rfl, hq⟩ | exact ⟨r, rfl, _, rfl, hq⟩
    refine wpAny_bind (ifBound_B X I hne F.cmp_object.ne (wpAny_mono bi (fun v s' hv => ?_) fun _ _ e => e))
    obtain ⟨r, rfl, hq⟩ := hv
    exact wpAny_pure ⟨_, rfl, hq⟩
  unfold richCompare
  simp only [oneThing_ref]
  refine wpAny_holding (wpAny_bind (wpAny_cRoomFor (Nat.lt_of_succ_lt hu) ?_))
  refine wpAny_bind (I.type.here (wpAny_bind (hb.here ?_)))
  split
  · rename_i q
    have e : subIn K tb (.ref C) = some false := by
      rcases Bool.or_eq_true_iff.mp hn with e | e
      · rw [beq_iff_eq.mp e] at q; simp at q
      · exact beq_iff_eq.mp e
    refine wpAny_bind ((looks_subIn X e).here ?_)
    simp only [Bool.false_eq_true, if_false]
    refine wpAny_bind (wpAny_mono one (fun r s' z => ?_) fun _ _ e => e)
    obtain ⟨v, rfl, hq⟩ := z
    exact wpAny_pure hq
  · refine wpAny_bind (wpAny_pure ?_)
    simp only [Bool.false_eq_true, if_false]
    refine wpAny_bind (wpAny_mono one (fun r s' z => ?_) fun _ _ e => e)
    obtain ⟨v, rfl, hq⟩ := z
    exact wpAny_pure hq
end
end PySem.W
namespace DL
open PySem L2 PyProof.Rows
/-! ### types -/
inductive TyT where
  | ty (n : String) | own (c : Nat)
deriving DecidableEq
def TyT.val (adr : AdrT) : TyT → Value
  | .ty n => .type n
  | .own c => .ref (adr c)
def tyD : D → TyT
  | .non => .ty "NoneType"
  | .bl _ => .ty "bool"
  | .int _ => .ty "int"
  | .str _ => .ty "str"
  | .tup _ => .ty "tuple"
  | .lst _ => .ty "list"
  | .scr _ => .ty "list"
  | .obj c _ => .own c
  | .exn c _ => .own c
@[simp] def isExn : D → Bool
  | .exn _ _ => true
  | _ => false
def tyO : O → Option TyT
  | .lst _ => some (.ty "list")
  | .obj c _ => some (.own c)
  | _ => none
def tyAr (ρ : List Slot) : Ar → Option TyT
  | .d d => if isExn d = true then none else some (tyD d)
  | .io i => (slO ρ i).bind tyO
/-- what isinstance and == ask of an own class -/
structure InsT (K : PySem.W.Frag) (C : Addr) : Prop where
  cl : Cls K C
  ha : PySem.W.findIn K (.ref C) "__class__" = some (some (.builtin "object.__class__"))
  hn : PySem.W.specialIn K (.builtin "object.__class__") "__get__" = some (some (.builtin "getset_descriptor.__get__"))
  htk : PySem.W.takesIn K (.builtin "object.__class__") = some true
  hm : PySem.W.mroIn K C (.type "object") = some true
section
variable {W : Wd} {σ : List (Option V)} {ρ : List Slot} {F H : Hp}
theorem tyD_ok (hS : Same F H) : ∀ {d : D} {v : V}, isExn d = false → Rep W.K W.adr F d v → (∀ c, tyD d = .own c → InsT W.K (W.adr c)) → TyX W.K H v ((tyD d).val W.adr)
  | .non, _, _, r, _ => by rw [show _ = V.non from r]; exact .base .non
  | .bl b, _, _, r, _ => by rw [show _ = V.bl b from r]; exact .base (.bl b)
  | .int b, _, _, r, _ => by rw [show _ = V.int b from r]; exact .base (.int b)
  | .str b, _, _, r, _ => by rw [show _ = V.str b from r]; exact .base (.str b)
  | .tup l, _, _, ⟨a, vs, e, h, _⟩, _ => by
    rw [e]
    rcases h with (h | ⟨o, h⟩) | ⟨o, _, _, h, c, _⟩
    · exact .base (.tup (hS _ _ h))
    · exact .fTuple (hS _ _ h)
    · exact .kTuple h c
  | .lst l, _, _, ⟨a, vs, e, h, _⟩, _ => by rw [e]; exact .base (.lst (hS _ _ h))
  | .scr l, _, _, ⟨a, e, h⟩, _ => by
    rw [e]
    rcases h with (h | ⟨o, h⟩) | ⟨o, _, _, h, c, _⟩
    · exact .base (.lst (hS _ _ h))
    · exact .base (.frz (hS _ _ h))
    · exact .kList h c
  | .obj c l, _, _, ⟨a, dx, fv, e, h, _⟩, hT => by
    rw [e]
    have T := hT c rfl
    exact .base (.ins (hS _ _ h) T.cl T.ha T.hn T.htk T.hm)
  | .exn _ _, _, z, _, _ => nomatch z
theorem tyAr_ok {x : Ar} {v : V} {t : TyT} (R : ERel W σ ρ F H) (r : ArRep W σ F [x] [v]) (h : tyAr ρ x = some t) (hT : ∀ c, t = .own c → InsT W.K (W.adr c)) : TyX W.K H v (t.val W.adr) := by
  cases x with
  | d d =>
    have h : (if isExn d = true then none else some (tyD d)) = some t := h
    by_cases hx : isExn d = true
    · rw [if_pos hx] at h; cases h
    · rw [if_neg hx] at h
      cases h
      obtain ⟨u, _, e, h1, _⟩ := r
      cases e
      exact tyD_ok R.sub (Bool.not_eq_true _ ▸ hx) h1 hT
  | io i =>
    obtain ⟨u, _, e, h1, _⟩ := r
    cases e
    have h : (slO ρ i).bind tyO = some t := h
    cases es : slO ρ i with
    | none => rw [es] at h; cases h
    | some o =>
      rw [es] at h
      obtain ⟨s, g1, g2⟩ := slO_some es
      obtain ⟨w, R⟩ := R
      obtain ⟨p, z1, z2⟩ := R.own_at g1 g2
      rw [h1] at z1
      cases z1
      cases o with
      | lst l =>
        cases h
        obtain ⟨_, vs, y1, _⟩ := z2
        exact .base (.lst y1)
      | obj c fs =>
        cases h
        obtain ⟨_, dx, fv, y1, _⟩ := z2
        have T := hT c rfl
        exact .base (.ins y1 T.cl T.ha T.hn T.htk T.hm)
      | dK _ => cases h
      | dT _ => cases h
      | bag _ _ _ _ => cases h
/-- an operand that is an instance of the class -/
def isC (c : Nat) (ρ : List Slot) (x : Ar) : Bool := match tyAr ρ x with | some (.own c') => decide (c' = c) | _ => false
theorem isC_ok {c : Nat} {x : Ar} {v : V} (R : ERel W σ ρ F H) (r : ArRep W σ F [x] [v]) (h : isC c ρ x = true) : ∃ a dx fv, v = .ref a ∧ H a = some (.ins (W.adr c) dx fv) := by
  unfold isC at h
  cases x with
  | d d =>
    obtain ⟨u, _, e, h1, _⟩ := r
    cases e
    cases d <;> simp only [tyAr, tyD, isExn, if_true, if_false, Bool.false_eq_true, decide_eq_true_eq] at h
    subst h
    obtain ⟨a, dx, fv, e, h2, _⟩ := h1
    exact ⟨a, dx, fv, e, R.sub _ _ h2⟩
  | io i =>
    obtain ⟨u, _, e, h1, _⟩ := r
    cases e
    cases es : slO ρ i with
    | none => simp [tyAr, es] at h
    | some o =>
      obtain ⟨s, g1, g2⟩ := slO_some es
      obtain ⟨w, R⟩ := R
      obtain ⟨p, z1, z2⟩ := R.own_at g1 g2
      rw [h1] at z1
      cases z1
      cases o <;> simp [tyAr, es, tyO] at h
      subst h
      obtain ⟨_, dx, fv, y1, _⟩ := z2
      exact ⟨p, dx, fv, rfl, y1⟩
end
/-! ### operands -/
def DO (X : Cx) (adr : AdrT) (Wx : WX) (e : Expr) (m : M Ar) : Prop := ∃ t, PE X e t ∧ ∀ W σ ρ F H Q, In X adr W → ERel W σ ρ F H → Po W F Wx (fun x ρ' F' H' => ∀ v, ERel W σ ρ' F' H' → ArRep W σ F' [x] [v] → Q v H') (m ρ) → t σ H Q
def oD (m : M D) : M Ar := fun ρ => (m ρ).bind fun d ρ1 => .ok (.d d) ρ1
def oIo (i : Nat) : M Ar := fun ρ => match slO ρ i with | some _ => .ok (.io i) ρ | none => .bad
section
variable {X : Cx} {adr : AdrT} {Wx : WX} {pos : Pos}
theorem do_d {e : Expr} {m : M D} (h : DE X adr Wx e m) : DO X adr Wx e (oD m) := by
  obtain ⟨t, p, q⟩ := h
  exact ⟨t, p, fun W σ ρ F H Q i R p => q W σ ρ F H _ i R (p.bind.imp fun d ρ1 F1 H1 s1 p v R1 r1 => p F1 H1 (Same.refl _) v R1 ⟨v, [], rfl, r1, rfl⟩)⟩
theorem do_io (i : Nat) {x : Str} (hN : X.N[i]? = some x := by rfl) (hv : Vis X.env.scope x := by first | exact Or.inl rfl | exact Or.inr (Or.inl rfl) | exact Or.inr (Or.inr rfl)) (hd : (x == ("__debug__" : Str)) = false := by decide)
    (hcd : (x == ("__classdict__" : Str)) = false := by decide) : DO X adr Wx (.Name x pos) (oIo i) := by
  refine ⟨_, pe_var hN hv hd hcd, fun W σ ρ F H Q i' R p => ?_⟩
  unfold oIo at p
  cases e : slO ρ i with
  | none => rw [e] at p; exact p.elim
  | some o =>
    rw [e] at p
    obtain ⟨s, g1, g2⟩ := slO_some e
    obtain ⟨w, R0⟩ := id R
    obtain ⟨a, z1, z2⟩ := R0.own_at g1 g2
    exact ⟨_, z1, p F H (Same.refl _) _ R ⟨_, [], rfl, z1, rfl⟩⟩
/-! ### isinstance -/
def eIsi (t : TyT) (ts : List TyT) (m : M Ar) : M D := fun ρ => (m ρ).bind fun x ρ1 => match tyAr ρ1 x with
  | some u => if u ∈ ts then .ok (.bl (decide (u = t))) ρ1 else .bad
  | none => .bad
theorem de_isi (t : TyT) (ts : List TyT) {c : V} {a : Expr} {y : Str} {p p2 : Pos} {m : M Ar} (h : DO X adr Wx a m) (hy : PE X (.Name y p2) (tC c)) (hc : ClsV c (t.val adr)) (hT : ∀ k, .own k ∈ ts → InsT X.K (adr k)) (hk : ∀ u ∈ ts, PySem.W.kitOne X.K (u.val adr) (t.val adr) = some (decide (u = t)))
    (hg : Gl X "isinstance") (hm : X.mg "isinstance" = none)
    (he : starEach [a, .Name y p2] X.env = (false, eval a X.env) :: starEach [.Name y p2] X.env := by rfl) (he2 : starEach [.Name y p2] X.env = (false, eval (.Name y p2) X.env) :: starEach [] X.env := by rfl) (hpl : (backTo pos (starEach [.Name y p2] X.env)).any (·.1) = false := by rfl) :
    DE X adr Wx (.Call (.Name "isinstance" p) [a, .Name y p2] [] pos) (eIsi t ts m) := by
  obtain ⟨ta, pa, qa⟩ := h
  refine ⟨_, pe_callB call_isi hg hm PyProof.Rows.Boot.isinstance (pa_cons pa (pa_cons hy pa_nil he2) he) (by decide) (by decide) he hpl, fun W σ ρ F H Q i R p => qa W σ ρ F H _ i R (p.bind.imp fun x ρ1 F1 H1 s1 p v R1 r1 => ?_)⟩
  cases e : tyAr ρ1 x with
  | none => rw [e] at p; exact p.elim
  | some u =>
    rw [e] at p
    by_cases hu : u ∈ ts
    · simp only [if_pos hu] at p
      have ty := tyAr_ok R1 r1 e (fun k ek => by rw [i.k, i.a]; exact hT k (ek ▸ hu))
      rw [i.k, i.a] at ty
      exact ⟨v, c, u.val adr, t.val adr, _, rfl, hc, ty, hk u hu, p F1 H1 (Same.refl _) _ R1 rfl⟩
    · simp only [if_neg hu] at p; exact p.elim
/-! ### == and != by an own __eq__ -/
def rEqO (K : PySem.W.Frag) (C : Addr) (sp : Sp) (neg : Bool) : R2 := fun x y H Q => ∃ a dx fs tb, x = .ref a ∧ H a = some (.ins C dx fs) ∧ TyX K H y tb ∧ PySem.W.notFirst K C tb = true ∧ sp [x, y] H (fun v H' => ∃ b, v = .bl b ∧ Q (.bl (if neg = true then !b else b)) H') (fun _ _ _ => False)
variable {k : Nat} {f C : Addr} {sp : Sp}
theorem op_eqO (F : FnR X.prog X.w X.K X.mg X.base (MX cxm X.prog X.w) k f sp) (hr : Room k X.A) (hs : PySem.W.findIn X.K (.ref C) "__eq__" = some (some (.ref f))) (hf : PySem.W.isFn X.K (.ref f) = true) : OpR X (compareOp .Eq) (rEqO X.K C sp false) := by
  intro pins s σ H x y u v Q I rx ry h
  obtain ⟨a, dx, fs, tb, rfl, ha, ty, hn, h⟩ := h
  cases rx
  obtain ⟨mA, J, _⟩ := ins_get I.hok ha
  obtain ⟨od, J, _⟩ := J.look
  obtain ⟨m, hF⟩ := I.fr
  obtain ⟨P, Z, pz, _⟩ := kit_of I ry ty
  refine PySem.W.cmp_ofEq (PySem.W.cmp_K (op := .Eq) (tb := tb) hr.units0 hF I.ok.mod.kin J (Z.ty _ _ I.kIn pz) hn hs hf ?_)
  refine wpAny_call (codeAny_mono (F X.A X.stack s H [.ref a, v] [.ref a, y] _ (fun _ _ _ => False) hr I.env0 (.cons rfl (.cons ry .nil)) h) fun r s' hq => ?_)
  cases r with
  | error e => exact passLM pins σ H s e s' I hq
  | ok fl =>
    cases fl with
    | ret w =>
      obtain ⟨z, H', I', rz, b, eb, q⟩ := I.after hq
      subst eb
      cases rz
      exact ⟨.bl b, H', I', rfl, q⟩
    | next => exact False.elim hq
    | brk => exact False.elim hq
    | cont => exact False.elim hq
theorem op_neO (F : FnR X.prog X.w X.K X.mg X.base (MX cxm X.prog X.w) k f sp) (hr : Room (k + 1) X.A) (hs : PySem.W.findIn X.K (.ref C) "__eq__" = some (some (.ref f))) (hf : PySem.W.isFn X.K (.ref f) = true)
    (hne : PySem.W.findIn X.K (.ref C) "__ne__" = some (some (.builtin "object.__ne__"))) (hm : PySem.W.mroIn X.K C (.type "object") = some true) : OpR X (compareOp .NotEq) (rEqO X.K C sp true) := by
  intro pins s σ H x y u v Q I rx ry h
  obtain ⟨a, dx, fs, tb, rfl, ha, ty, hn, h⟩ := h
  cases rx
  obtain ⟨mA, J, _⟩ := ins_get I.hok ha
  obtain ⟨od, J, _⟩ := J.look
  obtain ⟨m, hF⟩ := I.fr
  obtain ⟨P, Z, pz, _⟩ := kit_of I ry ty
  refine PySem.W.cmp_ofNotEq (PySem.W.ne_own_K (tb := tb) hr.in1.units0 hF I.ok.mod.kin J (Z.ty _ _ I.kIn pz) hn hne hs hf hm ?_)
  refine wpAny_call (codeAny_mono (F X.A.in1 X.stack s H [.ref a, v] [.ref a, y] _ (fun _ _ _ => False) hr.in1 I.env0.in1 (.cons rfl (.cons ry .nil)) h) fun r s' hq => ?_)
  cases r with
  | error e => exact passLM pins σ H s e s' I hq
  | ok fl =>
    cases fl with
    | ret w =>
      obtain ⟨z, H', I', rz, b, eb, q⟩ := I.after hq
      subst eb
      cases rz
      exact ⟨b, rfl, .bl (!b), H', I', rfl, q⟩
    | next => exact False.elim hq
    | brk => exact False.elim hq
    | cont => exact False.elim hq
/-- a == b, a != b: the meaning -/
def eEqO (c : Nat) (ts : List TyT) (f : Fn) (neg : Bool) (ma mb : M Ar) : M D := fun ρ => (ma ρ).bind fun x ρ1 => (mb ρ1).bind fun y ρ2 => if isC c ρ2 x = true ∧ (match tyAr ρ2 y with | some u => decide (u ∈ ts) | none => false) = true then
  (noX (callF f [x, y] ρ2)).bind fun s ρ3 => (match s with | .frz (.bl b) => .ok (.bl (if neg = true then !b else b)) ρ3 | _ => .bad) else .bad
theorem callF_E0 {W : Wd} {σ : List (Option V)} {ρ : List Slot} {F H : Hp} {Q : V → Hp → Prop} {f : Fn} {xs : List Ar} {vs : List V} (R : ERel W σ ρ F H) (r : ArRep W σ F xs vs) (p : PoX W σ F Wx Q (noX (callF f xs ρ))) : spD W.K W.adr f vs H Q (fun _ _ _ => False) :=
  callF_sp2 R r (fun z => by rw [z] at p; exact p) (fun s ρ2 e => by rw [e] at p; exact p) (fun c d ρ2 e cls dx F' H' s' R' x => by rw [e] at p; exact p)
theorem eqO_ok {c : Nat} {ts : List TyT} {mf : Fn} {neg : Bool} {ta tb : TE} {ma mb : M Ar} (qa : ∀ W σ ρ F H Q, In X adr W → ERel W σ ρ F H → Po W F Wx (fun x ρ' F' H' => ∀ v, ERel W σ ρ' F' H' → ArRep W σ F' [x] [v] → Q v H') (ma ρ) → ta σ H Q)
    (qb : ∀ W σ ρ F H Q, In X adr W → ERel W σ ρ F H → Po W F Wx (fun x ρ' F' H' => ∀ v, ERel W σ ρ' F' H' → ArRep W σ F' [x] [v] → Q v H') (mb ρ) → tb σ H Q) (hT : ∀ k, .own k ∈ ts → InsT X.K (adr k)) (hn : ∀ t ∈ ts, PySem.W.notFirst X.K (adr c) (t.val adr) = true) :
    ∀ W σ ρ F H Q, In X adr W → ERel W σ ρ F H → PoD W σ F Wx Q (eEqO c ts mf neg ma mb ρ) → tOp (rEqO X.K (adr c) (spD X.K adr mf) neg) ta tb σ H Q := fun W σ ρ F H Q i R p => by
  refine qa W σ ρ F H _ i R (p.bind.imp fun x ρ1 F1 H1 s1 p u R1 r1 => qb W σ ρ1 F1 H1 _ i R1 (p.bind.imp fun y ρ2 F2 H2 s2 p v R2 r2 => ?_))
  have r1' := ArRep.mono s2 r1
  by_cases hc : isC c ρ2 x = true ∧ (match tyAr ρ2 y with | some u => decide (u ∈ ts) | none => false) = true
  · rw [if_pos hc] at p
    obtain ⟨h1, h2⟩ := hc
    obtain ⟨a, dx, fv, rfl, ha⟩ := isC_ok R2 r1' h1
    cases e : tyAr ρ2 y with
    | none => rw [e] at h2; cases h2
    | some t =>
      rw [e] at h2
      have ht : t ∈ ts := of_decide_eq_true h2
      have ty := tyAr_ok R2 r2 e (fun k ek => by rw [i.k, i.a]; exact hT k (ek ▸ ht))
      rw [i.k, i.a] at ty
      rw [i.a] at ha
      refine ⟨a, dx, fv, t.val adr, rfl, ha, ty, hn t ht, ?_⟩
      have r3 : ArRep W σ F2 [x, y] [.ref a, v] := ArRep.append (l := [x]) (l' := [y]) r1' r2
      have h := callF_E0 (Wx := Wx) (Q := fun v H' => ∃ b, v = .bl b ∧ Q (.bl (if neg = true then !b else b)) H') (f := mf) R2 r3 ?_
      · rw [i.k, i.a] at h; exact h
      · cases ec : callF mf [x, y] ρ2 with
        | bad => rw [ec] at p; exact p
        | exc _ _ _ => rw [ec] at p; exact p
        | ok s ρ3 =>
          rw [ec] at p
          simp only [noX, Res.bind_ok] at p
          intro F3 H3 s3 w R3 g1 g2
          cases s with
          | frz d =>
            cases d with
            | bl b =>
              rcases R3.popD (fun p hp => by
                have := R2.fixLt p hp
                have hl := R2.len
                have hl3 := R3.len2
                omega) g2 g1 with ⟨d', e', R4, rr⟩ | ⟨o, e', _⟩
              · cases e'
                exact ⟨b, rr, p F3 H3 s3 _ R4 rfl⟩
              · cases e'
            | _ => exact p.elim
          | _ => exact p.elim
  · rw [if_neg hc] at p; exact p.elim
theorem de_eqO (c : Nat) (ts : List TyT) {mf : Fn} {a b : Expr} {ma mb : M Ar} (G : FnR X.prog X.w X.K X.mg X.base (MX cxm X.prog X.w) k f (spD X.K adr mf)) (hr : Room k X.A) (hs : PySem.W.findIn X.K (.ref (adr c)) "__eq__" = some (some (.ref f))) (hf : PySem.W.isFn X.K (.ref f) = true)
    (hT : ∀ k, .own k ∈ ts → InsT X.K (adr k)) (hn : ∀ t ∈ ts, PySem.W.notFirst X.K (adr c) (t.val adr) = true) (ha : DO X adr Wx a ma) (hb : DO X adr Wx b mb) (hm : behindInMarks .Eq b = false := by rfl) : DE X adr Wx (.Compare a [.Eq] [b] pos) (eEqO c ts mf false ma mb) := by
  obtain ⟨ta, pa, qa⟩ := ha
  obtain ⟨tb, pb, qb⟩ := hb
  exact ⟨_, pe_cmpR (op_eqO G hr hs hf) pa pb hm, eqO_ok qa qb hT hn⟩
theorem de_neO (c : Nat) (ts : List TyT) {mf : Fn} {a b : Expr} {ma mb : M Ar} (G : FnR X.prog X.w X.K X.mg X.base (MX cxm X.prog X.w) k f (spD X.K adr mf)) (hr : Room (k + 1) X.A) (hs : PySem.W.findIn X.K (.ref (adr c)) "__eq__" = some (some (.ref f))) (hf : PySem.W.isFn X.K (.ref f) = true)
    (hne : PySem.W.findIn X.K (.ref (adr c)) "__ne__" = some (some (.builtin "object.__ne__"))) (hmo : PySem.W.mroIn X.K (adr c) (.type "object") = some true)
    (hT : ∀ k, .own k ∈ ts → InsT X.K (adr k)) (hn : ∀ t ∈ ts, PySem.W.notFirst X.K (adr c) (t.val adr) = true) (ha : DO X adr Wx a ma) (hb : DO X adr Wx b mb) (hm : behindInMarks .NotEq b = false := by rfl) : DE X adr Wx (.Compare a [.NotEq] [b] pos) (eEqO c ts mf true ma mb) := by
  obtain ⟨ta, pa, qa⟩ := ha
  obtain ⟨tb, pb, qb⟩ := hb
  exact ⟨_, pe_cmpR (op_neO G hr hs hf hne hmo) pa pb hm, eqO_ok qa qb hT hn⟩
end
end DL

set_option maxHeartbeats 4000000
/-! DL14: properties, len of own classes, written dicts, the law's bag. -/
namespace DL
open PySem L2 PyProof.Rows
section
variable {X : Cx} {adr : AdrT} {Wx : WX} {pos : Pos} {k : Nat} {f g : Addr} {sp : Sp}
/-! ### properties -/
theorem getpropR {pins : List (Addr × Obj)} {σ : L2.St} {H : Hp} {s : Shared} {Q : VK} {b : Bool} {C p g a dx : Addr} {fs : List (Str × V)} {f : Str} {E' : Value → Shared → Prop} (I : Inv X pins σ H s) (ea : H a = some (.ins C dx fs)) (c : Cls X.K C) (hp : PropOf X.K C f p g)
    (F : FnR X.prog X.w X.K X.mg X.base (MX cxm X.prog X.w) k g sp) (hr : Room (k + 1) X.A) (h : sp [.ref a] H Q (fun _ _ _ => False)) :
    wpAny (model X.prog X.w) X.A (getAttr (.ref a) f b) (EP X pins σ Q) E' s := by
  obtain ⟨mA, O, _, _, _, _⟩ := ins_get I.hok ea
  obtain ⟨od, J, _⟩ := O.look
  obtain ⟨rest, hrec⟩ := hp.rec_
  have I1 := I.tok (s.toks + 1)
  have hc : (PySem.W.clsIn X.K C).isSome = true := by
    obtain ⟨cd, hc, _⟩ := PySem.W.any_some c.hd
    rw [hc]
    rfl
  refine PySem.W.get_bind I.kIn J (PySem.W.plainGet_of (c.get f)).1 (PySem.W.findObj_data hc hp.at_ hp.get hp.tak) (PySem.W.plainGet_of (c.get f)).2 (wpAny_call (PySem.W.prop_get (s := { s with toks := s.toks + 1 }) I.kIn hrec ?_))
  refine codeAny_mono (F X.A.in1 X.stack { s with toks := s.toks + 1 } H [.ref a] [.ref a] Q (fun _ _ _ => False) hr.in1 I1.env0.in1 (.cons rfl .nil) h) fun r s' hq => ?_
  cases r with
  | error er => exact (passLM (X := X.nox) pins σ H { s with toks := s.toks + 1 } er s' (I1.wish _) hq : False).elim
  | ok fl =>
    cases fl with
    | ret u =>
      obtain ⟨v, H', I3, rv, q3⟩ := I1.after hq
      show wpAny _ _ (handedOut u) _ _ _
      rw [PySem.W.handedOut_of (handed_of rv)]
      exact wpAny_pure ⟨v, H', I3, rv, q3⟩
    | next => exact False.elim hq
    | brk => exact False.elim hq
    | cont => exact False.elim hq
def xProp (c : Nat) (f : Fn) (m : M Ar) : M Slot := fun ρ => (m ρ).bind fun x ρ1 => if isC c ρ1 x = true then noX (callF f [x] ρ1) else .bad
theorem dx_prop (c : Nat) {mf : Fn} {e : Expr} {n : Str} {p : Addr} {m : M Ar} (hc : Cls X.K (adr c)) (hp : PropOf X.K (adr c) n p g) (G : FnR X.prog X.w X.K X.mg X.base (MX cxm X.prog X.w) k g (spD X.K adr mf)) (hr : Room (k + 1) X.A) (h : DO X adr Wx e m)
    (hab : attributeBase e n X.env (eval e X.env) = eval e X.env := by rfl) : DX X adr Wx (.Attribute e n pos) (xProp c mf m) := by
  obtain ⟨t, pe, q⟩ := h
  refine ⟨fun σ H Q => t σ H fun x H1 => ∃ a dx fs, x = .ref a ∧ H1 a = some (.ins (adr c) dx fs) ∧ spD X.K adr mf [.ref a] H1 Q (fun _ _ _ => False), ⟨fun pins s σ H Q I h => ?_⟩, fun W σ ρ F H Q i R p => q W σ ρ F H _ i R (p.bind.imp fun x ρ1 F1 H1 s1 p v R1 r1 => ?_)⟩
  · refine attr_of hab (thn (pe.run pins s σ H _ I h) fun u s1 ⟨x, H1, I1, rx, a, dx, fs, ex, ea, q⟩ => ?_)
    subst ex
    obtain rfl : u = Value.ref a := rx
    exact getpropR I1 ea hc hp G hr q
  · by_cases hC : isC c ρ1 x = true
    · rw [if_pos hC] at p
      obtain ⟨a, dx, fv, rfl, ha⟩ := isC_ok R1 r1 hC
      rw [i.a] at ha
      have h := callF_E0 (Wx := Wx) R1 r1 p
      rw [i.k, i.a] at h
      exact ⟨a, dx, fv, rfl, ha, h⟩
    · rw [if_neg hC] at p; exact p.elim
/-! ### len -/
noncomputable def eLenO (c : Nat) (f : Fn) (m : M Ar) : M D := fun ρ => (m ρ).bind fun x ρ1 => if isC c ρ1 x = true then (noX (callF f [x] ρ1)).bind fun s ρ2 => (match s with
  | .frz (.int n) => @ite _ (0 ≤ n ∧ n < 2 ^ 63) (Classical.propDecidable _) (.ok (.int n) ρ2) .bad
  | _ => .bad) else .bad
def rLenO (C : Addr) (sp : Sp) : List V → Hp → VK → Prop := fun xs H Q => ∃ a dx fs, xs = [.ref a] ∧ H a = some (.ins C dx fs) ∧ sp [.ref a] H (fun v H' => ∃ n, v = .int n ∧ 0 ≤ n ∧ n < 2 ^ 63 ∧ Q (.int n) H') (fun _ _ _ => False)
theorem cr_lenO {C : Addr} (F : FnR X.prog X.w X.K X.mg X.base (MX cxm X.prog X.w) k f sp) (hr : Room (k + 1) X.A) (hs : PySem.W.findIn X.K (.ref C) "__len__" = some (some (.ref f))) (hf : PySem.W.isFn X.K (.ref f) = true) : CallR X (.builtin "len") (rLenO C sp) := by
  intro pins s σ H xs us Q I r h
  obtain ⟨a, dx, fs, rfl, ea, h⟩ := h
  obtain ⟨u, rfl, ru⟩ := r.one
  cases ru
  obtain ⟨mA, J, _⟩ := ins_get I.hok ea
  obtain ⟨od, J, _⟩ := J.look
  obtain ⟨m, hF⟩ := I.fr
  refine PySem.W.len_K hF I.ok.mod.kin J hs hf (wpAny_call (codeAny_mono (F X.A.in1 X.stack s H [.ref a] [.ref a] _ (fun _ _ _ => False) hr.in1 I.env0.in1 (.cons rfl .nil) h) fun r s' hq => ?_))
  cases r with
  | error e => exact passLM pins σ H s e s' I hq
  | ok fl =>
    cases fl with
    | ret w =>
      obtain ⟨z, H', I', rz, n, eb, h0, h1, q⟩ := I.after hq
      subst eb
      obtain ⟨t, rfl⟩ := rz
      exact ⟨⟨h0, h1⟩, .int n, H', I'.tok _, ⟨_, rfl⟩, q⟩
    | next => exact False.elim hq
    | brk => exact False.elim hq
    | cont => exact False.elim hq
theorem de_lenO (c : Nat) {mf : Fn} {e : Expr} {p : Pos} {m : M Ar} (G : FnR X.prog X.w X.K X.mg X.base (MX cxm X.prog X.w) k f (spD X.K adr mf)) (hr : Room (k + 1) X.A) (hs : PySem.W.findIn X.K (.ref (adr c)) "__len__" = some (some (.ref f))) (hf : PySem.W.isFn X.K (.ref f) = true) (h : DO X adr Wx e m)
    (hg : Gl X "len") (hm : X.mg "len" = none) (he : starEach [e] X.env = (false, eval e X.env) :: starEach [] X.env := by rfl) (hpl : (backTo pos (starEach [] X.env)).any (·.1) = false := by rfl) : DE X adr Wx (.Call (.Name "len" p) [e] [] pos) (eLenO c mf m) := by
  obtain ⟨t, pe, q⟩ := h
  refine ⟨_, pe_callB (cr_lenO G hr hs hf) hg hm PyProof.Rows.Boot.len (pa_cons pe pa_nil he) (by decide) (by decide) he hpl, fun W σ ρ F H Q i R p => q W σ ρ F H _ i R (p.bind.imp fun x ρ1 F1 H1 s1 p v R1 r1 => ?_)⟩
  by_cases hC : isC c ρ1 x = true
  · rw [if_pos hC] at p
    obtain ⟨a, dx, fv, rfl, ha⟩ := isC_ok R1 r1 hC
    rw [i.a] at ha
    have h := callF_E0 (Wx := Wx) (Q := fun v H' => ∃ n, v = .int n ∧ 0 ≤ n ∧ n < 2 ^ 63 ∧ Q (.int n) H') (f := mf) R1 r1 ?_
    · rw [i.k, i.a] at h
      exact ⟨a, dx, fv, rfl, ha, h⟩
    · cases ec : callF mf [x] ρ1 with
      | bad => rw [ec] at p; exact p
      | exc _ _ _ => rw [ec] at p; exact p
      | ok s ρ3 =>
        rw [ec] at p
        simp only [noX, Res.bind_ok] at p
        intro F3 H3 s3 w R3 g1 g2
        cases s with
        | frz d =>
          cases d with
          | int n =>
            simp only at p
            by_cases hn : 0 ≤ n ∧ n < 2 ^ 63
            · rw [if_pos hn] at p
              rcases R3.popD (fun p hp => by
                have := R1.fixLt p hp
                have hl := R1.len
                have hl3 := R3.len2
                omega) g2 g1 with ⟨d', e', R4, rr⟩ | ⟨o, e', _⟩
              · cases e'
                exact ⟨n, rr, hn.1, hn.2, p F3 H3 s3 _ R4 rfl⟩
              · cases e'
            · rw [if_neg hn] at p; exact p.elim
          | _ => exact p.elim
        | _ => exact p.elim
  · rw [if_neg hC] at p; exact p.elim
/-! ### written dicts -/
structure KD (K : PySem.W.Frag) (adr : AdrT) (w : World) (p : Addr) (tbl : List (Str × D)) : Prop where
  at_ : ∃ es n, K.lookup p = some ⟨.type "dict", none, .dict es n, #[]⟩ ∧ PySem.W.KeysLit w.params es.toList
  low : (p == sysModules) = false
  get : ∀ z d, tbl.lookup z = some d → ∃ u v, PySem.W.nsIn K p z = some (some u) ∧ RelV v u ∧ ∀ F, Rep K adr F d v
  no : ∀ z, tbl.lookup z = none → PySem.W.nsIn K p z = some none
def fKix (tbl : List (Str × D)) : D → Option D
  | .str z => tbl.lookup z
  | _ => none
def fKget (tbl : List (Str × D)) : D → Option D
  | .str z => some ((tbl.lookup z).getD .non)
  | _ => none
theorem de_kix {x : Str} {q : Addr} {p1 : Pos} {tbl : List (Str × D)} {b : Expr} {m : M D} (kd : KD X.K adr X.w q tbl) (hm : X.mg x = some (.ref q)) (h : DE X adr Wx b m) (hg : Gl X x := by rfl) (hdb : (x == ("__debug__" : Str)) = false := by decide) (hs : PlainIx b := by exact fun _ _ => rfl) :
    DE X adr Wx (.Subscript (.Name x p1) b pos) (e1 (fKix tbl) m) := by
  obtain ⟨t, pe, qe⟩ := h
  refine ⟨_, pe_ix ix_kdict (pe_glob (v := .ref q) hg hm rfl hdb) pe hs, fun W σ ρ F H Q i R p => qe W σ ρ F H _ i R (p.bind.imp fun d ρ1 F1 H1 s1 p v R1 r1 => ?_)⟩
  obtain ⟨d', e, pp⟩ := opt_some p
  cases d <;> simp only [fKix, reduceCtorEq] at e
  rename_i z
  obtain ⟨u, w, h1, h2, h3⟩ := kd.get z d' e
  obtain ⟨es, n, g1, g2⟩ := kd.at_
  exact ⟨q, z, w, rfl, r1, ⟨es, n, u, g1, g2, h1, h2⟩, pp F1 H1 (Same.refl _) _ R1 (by rw [i.k, i.a]; exact h3 F1)⟩
theorem de_kget {x : Str} {q : Addr} {p1 apos cpos : Pos} {tbl : List (Str × D)} {b : Expr} {md : M D} (kd : KD X.K adr X.w q tbl) (hm : X.mg x = some (.ref q)) (h : DE X adr Wx b md) (hg : Gl X x := by rfl) (hdb : (x == ("__debug__" : Str)) = false := by decide)
    (m : M1 X (.Name x p1) "get" apos b cpos := by exact ⟨rfl, rfl, rfl, rfl⟩) : DE X adr Wx (.Call (.Attribute (.Name x p1) "get" apos) [b] [] cpos) (e1 (fKget tbl) md) := by
  obtain ⟨t, pe, qe⟩ := h
  refine ⟨fun σ H Q => t σ H fun v H1 => ∃ z, v = .str z ∧ ∃ u w, PySem.W.nsIn X.K q z = some u ∧ RelV w (u.getD .none) ∧ Q w H1, ⟨fun pins s σ H Q I h => ?_⟩, fun W σ ρ F H Q i R p => qe W σ ρ F H _ i R (p.bind.imp fun d ρ1 F1 H1 s1 p v R1 r1 => ?_)⟩
  · obtain ⟨es, n, g1, g2⟩ := kd.at_
    refine wpAny_Call_method m.base m.few m.line PySem.F.plainAttrs_dict PySem.F.slot_dict_get PySem.F.type_dict_get (ld_glob I hg hm ?_ hdb)
    have hm' := PySem.W.mapOf_K (prog := X.prog) (w := X.w) I.kIn g1 g2
    refine ⟨hm'.typeIs, fun a e => ?_, ?_⟩
    · cases e
      exact ⟨_, I.kIn _ _ g1, rfl⟩
    · rw [m.trees]
      refine wpAny_dict_get1 (knd := strKind X.prog X.w) kd.low (thn (pe.run pins s σ H _ I h) fun u s1 ⟨x, H1, I1, rx, z, ex, u', w', hu, rw', q⟩ => ?_)
      subst ex
      obtain ⟨t, rfl⟩ := rx
      have hm1 := PySem.W.mapOf_K (prog := X.prog) (w := X.w) I1.kIn g1 g2
      refine ⟨z, _, strKind_is X.prog X.w z t, hm1, ?_⟩
      show EP X pins σ Q ((findBy Value.isStrOf es z).getD .none) _
      rw [PySem.W.find_K g1 hu]
      exact ⟨w', H1, I1.tok _, rw', q⟩
  · obtain ⟨d', e, pp⟩ := opt_some p
    cases d <;> simp only [fKget, reduceCtorEq] at e
    rename_i z
    cases e
    refine ⟨z, r1, ?_⟩
    cases el : tbl.lookup z with
    | none => exact ⟨none, .non, kd.no z el, rfl, pp F1 H1 (Same.refl _) _ R1 (by rw [el]; rfl)⟩
    | some d =>
      obtain ⟨u, w, h1, h2, h3⟩ := kd.get z d el
      exact ⟨some u, w, h1, h2, pp F1 H1 (Same.refl _) _ R1 (by rw [i.k, i.a, el]; exact h3 F1)⟩
end
end DL

set_option maxHeartbeats 4000000
/-! DL15: sorted ints; the law's bag. -/
namespace DL
open PySem L2 PyProof.Rows
section
variable {X : Cx} {adr : AdrT} {Wx : WX} {pos : Pos}
/-! ### sorted -/
def fSorted : List D → Option (List D)
  | [.lst l] => (intsOf l).map fun ns => (sortI ns).map D.int
  | [.scr ns] => some ((sortI ns).map D.int)
  | _ => none
theorem intsOf_eq {l : List D} {ns : List Int} (h : intsOf l = some ns) : l = ns.map D.int := by
  induction l generalizing ns with
  | nil => cases h; rfl
  | cons d l ih =>
    cases d <;> simp only [intsOf, reduceCtorEq] at h
    cases e : intsOf l with
    | none => rw [e] at h; cases h
    | some ms => rw [e] at h; cases h; rw [ih e]; rfl
theorem sortI_unique {a b : List Int} (h1 : a.Perm b) (h2 : a.Pairwise (· ≤ ·)) : a = sortI b :=
  List.Perm.eq_of_pairwise (fun x y _ _ h h' => Int.le_antisymm h h') h2 (sortI_sorted b) (h1.trans (sortI_perm b).symm)
theorem cx_sorted : CallX X adr (rSortedI X.K) fSorted := fun W σ ρ F H Q l vs d i R r e q => by
  match l, e with
  | [.lst l], e =>
    simp only [fSorted] at e
    cases en : intsOf l with
    | none => rw [en] at e; cases e
    | some ns =>
      rw [en] at e
      cases e
      obtain ⟨v, _, rfl, ⟨a, us, rfl, h1, h2⟩, rfl⟩ := r
      have en' := intsOf_eq en; rw [en'] at h2
      have h3 := Reps.ints h2
      subst h3
      refine ⟨a, ns, rfl, .inl (.inl (R.sub _ _ h1)), fun ns' p hp hs hn => ?_⟩
      rw [sortI_unique hp hs]
      exact q p F H _ (Same.refl _) R (Reps.ofInts _) hn
  | [.scr ns], e =>
    cases e
    obtain ⟨v, _, rfl, ⟨a, rfl, h1⟩, rfl⟩ := r
    refine ⟨a, ns, rfl, by rw [← i.k]; exact R.sub.seq h1, fun ns' p hp hs hn => ?_⟩
    rw [sortI_unique hp hs]
    exact q p F H _ (Same.refl _) R (Reps.ofInts _) hn
/-! ### the bag -/
inductive BK where
  | left | turn | blend
def BK.str : BK → Str
  | .left => "left"
  | .turn => "turn"
  | .blend => "blend"
def BK.get : BK → Int → Int → Int → Int
  | .left, l, _, _ => l
  | .turn, _, t, _ => t
  | .blend, _, _, b => b
def BK.put (k : BK) (g : List Int) (l t b v : Int) : O := match k with
  | .left => .bag g v t b
  | .turn => .bag g l v b
  | .blend => .bag g l t v
abbrev bagKv (q : Addr) (l t b : Int) : List (Key × V) := [(.inr "great", .ref q), (.inr "left", .int l), (.inr "turn", .int t), (.inr "blend", .int b)]
theorem bag_get (k : BK) (q : Addr) (l t b : Int) : valV (bagKv q l t b) (.inr k.str) = some (.int (k.get l t b)) := by
  cases k <;> rfl
theorem bag_great (q : Addr) (l t b : Int) : valV (bagKv q l t b) (.inr "great") = some (.ref q) := rfl
theorem bag_put (k : BK) (q : Addr) (l t b v : Int) : putK (bagKv q l t b) (.inr k.str) (.int v) = (match k with | .left => bagKv q v t b | .turn => bagKv q l v b | .blend => bagKv q l t v) := by
  cases k <;> rfl
def bagAt (ρ : List Slot) (i : Nat) : Option (List Int × Int × Int × Int) := match slO ρ i with | some (.bag g l t b) => some (g, l, t, b) | _ => none
section
variable {W : Wd} {σ : List (Option V)} {ρ : List Slot} {F H : Hp}
theorem bagAt_some {i : Nat} {g : List Int} {l t b : Int} (h : bagAt ρ i = some (g, l, t, b)) : ∃ s, ρ[i]? = some s ∧ oOf s = some (.bag g l t b) := by
  unfold bagAt at h
  cases e : slO ρ i with
  | none => rw [e] at h; cases h
  | some o =>
    rw [e] at h
    cases o <;> first | (cases h; done) | skip
    cases h
    exact slO_some e
theorem ERel.bag_at {i : Nat} {g : List Int} {l t b : Int} (R : ERel W σ ρ F H) (h : bagAt ρ i = some (g, l, t, b)) : ∃ p q, σ[i]? = some (some (.ref p)) ∧ H q = some (.lst (g.map V.int)) ∧ H p = some (.dK (bagKv q l t b)) := by
  obtain ⟨s, h1, h2⟩ := bagAt_some h
  obtain ⟨w, R⟩ := R
  obtain ⟨p, z1, _, q, _, z2, z3⟩ := R.own_at h1 h2
  exact ⟨p, q, z1, z2, z3⟩
theorem ERel.bag_put {i : Nat} {g : List Int} {l t b : Int} {p q : Addr} (k : BK) (v : Int) (R : ERel W σ ρ F H) (h : bagAt ρ i = some (g, l, t, b)) (hp : σ[i]? = some (some (.ref p))) (hd : H p = some (.dK (bagKv q l t b))) :
    ERel W σ (putS ρ i (k.put g l t b v)) F (upd H p (.dK (putK (bagKv q l t b) (.inr k.str) (.int v)))) := by
  obtain ⟨s, h1, h2⟩ := bagAt_some h
  obtain ⟨w, R⟩ := R
  obtain ⟨p', z1, zw, q', zq, z2, z3⟩ := R.own_at h1 h2
  rw [hp] at z1
  cases z1
  rw [hd] at z3
  have eq : q = q' := by
    have := Option.some.inj z3
    injection this with this
    simpa using this
  subst eq
  have hne : q ≠ p := fun e => by rw [e, hd] at z2; cases z2
  rw [putS_eq h1]
  refine ⟨w, R.rewrite h1 h2 (fun a ha => ?_) (fun a ha => ?_) hp ?_⟩
  · exact upd_ne (fun e => by subst e; exact ha zw)
  · by_cases e : a = p
    · subst e; rw [upd_same]; exact fun z => nomatch z
    · rw [upd_ne e]; exact (R.owned a i ha).2.1
  · rw [DL.bag_put]
    cases k
    · exact ⟨zw, q, zq, by rw [upd_ne hne]; exact z2, upd_same⟩
    · exact ⟨zw, q, zq, by rw [upd_ne hne]; exact z2, upd_same⟩
    · exact ⟨zw, q, zq, by rw [upd_ne hne]; exact z2, upd_same⟩
theorem ERel.bag_pop {i : Nat} {g g' : List Int} {l t b : Int} {p q : Addr} (R : ERel W σ ρ F H) (h : bagAt ρ i = some (g, l, t, b)) (hp : σ[i]? = some (some (.ref p))) (hd : H p = some (.dK (bagKv q l t b))) :
    ERel W σ (putS ρ i (.bag g' l t b)) F (upd H q (.lst (g'.map V.int))) := by
  obtain ⟨s, h1, h2⟩ := bagAt_some h
  obtain ⟨w, R⟩ := R
  obtain ⟨p', z1, zw, q', zq, z2, z3⟩ := R.own_at h1 h2
  rw [hp] at z1
  cases z1
  rw [hd] at z3
  have eq : q = q' := by
    have := Option.some.inj z3
    injection this with this
    simpa using this
  subst eq
  have hne : q ≠ p := fun e => by rw [e, hd] at z2; cases z2
  rw [putS_eq h1]
  refine ⟨w, R.rewrite h1 h2 (fun a ha => ?_) (fun a ha => ?_) hp ⟨zw, q, zq, upd_same, by rw [upd_ne (Ne.symm hne)]; exact hd⟩⟩
  · exact upd_ne (fun e => by subst e; exact ha zq)
  · by_cases e : a = q
    · subst e; rw [upd_same]; exact fun z => nomatch z
    · rw [upd_ne e]; exact (R.owned a i ha).2.1
end
theorem WRel.forget {W : Wd} {w : Own} {σ : List (Option V)} {ρ : List Slot} {F H : Hp} {i : Nat} {o : O} (R : WRel W w σ ρ F H) (e : ρ[i]? = some (.own o)) : WRel W (fun b => if w b = some i then none else w b) σ (ρ.set i .no) F H := by
  have hi := (List.getElem?_eq_some_iff.mp e).1
  refine ⟨by rw [List.length_set]; exact R.len, R.sub, R.alive, R.old, R.keep, fun p hp => ?_, fun a j e2 => ?_, fun a u e2 => ⟨(R.guard a u e2).1, (R.guard a u e2).2.1, by rw [(R.guard a u e2).2.2]; rfl⟩, fun j s e2 => ?_⟩
  · obtain ⟨g1, o', g2⟩ := R.fix p hp
    have hne : i ≠ p.1 := fun q => by rw [← q, e] at g2; cases g2
    exact ⟨g1, o', by rw [List.getElem?_set_ne hne]; exact g2⟩
  · by_cases hw : w a = some i
    · rw [if_pos hw] at e2; cases e2
    · rw [if_neg hw] at e2
      obtain ⟨g1, g2, g3⟩ := R.owned a j e2
      have hj : i ≠ j := fun q => hw (by rw [e2, q])
      exact ⟨g1, g2, g3.imp id fun ⟨z, s, e3, e4⟩ => ⟨z, s, by rw [List.getElem?_set_ne hj]; exact e3, e4⟩⟩
  · by_cases hij : i = j
    · subst hij
      rw [List.getElem?_set_self hi] at e2
      cases e2
      obtain ⟨ov, h1, _⟩ := R.slots i _ e
      exact ⟨ov, h1, trivial⟩
    · rw [List.getElem?_set_ne hij] at e2
      obtain ⟨ov, h1, h2⟩ := R.slots j s e2
      refine ⟨ov, h1, h2.stay (Same.refl _) fun a z => ⟨?_, fun o q => q⟩⟩
      rw [if_neg (fun q => by rw [q] at z; exact hij (Option.some.inj z))]
      exact z
variable {i : Nat} {x : Str} {p1 p2 p3 : Pos} {k0 : Nat}
def eBag (i : Nat) (k : BK) : M D := fun ρ => match bagAt ρ i with | some (_, l, t, b) => .ok (.int (k.get l t b)) ρ | none => .bad
theorem pe_key {z : Str} {j : Nat} {p : Pos} : PE X (.Constant (.str z) j p) (tC (.str z)) := pe_str
theorem de_bag (i : Nat) (k : BK) (hu : X.A.units + 1 < cLine) (hN : X.N[i]? = some x := by rfl) (hv : Vis X.env.scope x := by first | exact Or.inl rfl | exact Or.inr (Or.inl rfl) | exact Or.inr (Or.inr rfl)) (hd : (x == ("__debug__" : Str)) = false := by decide)
    (hcd : (x == ("__classdict__" : Str)) = false := by decide) (hs : NoSl (.Constant (.str k.str) k0 p2) := by exact fun _ _ => rfl) : DE X adr Wx (.Subscript (.Name x p1) (.Constant (.str k.str) k0 p2) pos) (eBag i k) := by
  refine ⟨_, pe_dget hu (pe_var hN hv hd hcd) pe_key hs, fun W σ ρ F H Q i' R p => ?_⟩
  unfold eBag at p
  cases e : bagAt ρ i with
  | none => rw [e] at p; exact p.elim
  | some z =>
    obtain ⟨g, l, t, b⟩ := z
    rw [e] at p
    obtain ⟨a, q, h1, h2, h3⟩ := R.bag_at e
    exact ⟨_, h1, a, .int (k.get l t b), rfl, .inl ⟨_, .inr k.str, .inl h3, rfl, (bag_get k q l t b).symm⟩, p F H (Same.refl _) _ R rfl⟩
/-- bag[k] = e -/
def sBagPut (i : Nat) (k : BK) (m : M D) : M Fl := fun ρ => (m ρ).bind fun d ρ1 => match d, bagAt ρ1 i with | .int v, some (g, l, t, b) => .ok .nx (putS ρ1 i (k.put g l t b v)) | _, _ => .bad
theorem ds_bagPut (i : Nat) (k : BK) {e : Expr} {m : M D} (hu : X.A.units + 1 < cLine) (h : DE X adr Wx e m) (hN : X.N[i]? = some x := by rfl) (hv : Vis X.env.scope x := by first | exact Or.inl rfl | exact Or.inr (Or.inl rfl) | exact Or.inr (Or.inr rfl)) (hd : (x == ("__debug__" : Str)) = false := by decide)
    (hcd : (x == ("__classdict__" : Str)) = false := by decide) (hs : swapsWith e (some (.Subscript (.Name x p1) (.Constant (.str k.str) k0 p2) p3)) pos.line X.env = pure false := by rfl) : DS X adr Wx (.Assign [.Subscript (.Name x p1) (.Constant (.str k.str) k0 p2) p3] e pos) (sBagPut i k m) := by
  obtain ⟨t, pe, q⟩ := h
  refine ⟨_, ps_dput hu (pe_var hN hv hd hcd) pe_key pe hs, fun W σ ρ F H E i' R p => q W σ ρ F H _ i' R (p.bind.imp fun d ρ1 F1 H1 s1 p v R1 r1 => ?_)⟩
  cases d <;> first | exact p.elim | skip
  rename_i v'
  cases e2 : bagAt ρ1 i with
  | none => rw [e2] at p; exact p.elim
  | some z =>
    obtain ⟨g, l, t, b⟩ := z
    rw [e2] at p
    obtain ⟨a, q, h1, h2, h3⟩ := R1.bag_at e2
    rw [show v = V.int v' from r1]
    exact ⟨_, h1, a, _, rfl, .inl ⟨_, .inr k.str, h3, rfl, (by rw [sizeLine_eq]; exact (by decide : (4 : Nat) < 16777216)), rfl⟩, p F1 _ (Same.refl _) σ (R1.bag_put k v' e2 h1 h3)⟩
/-- bag[k] += e -/
def sBagAug (i : Nat) (k : BK) (m : M D) : M Fl := fun ρ => match bagAt ρ i with
  | some (_, l0, t0, b0) => (m ρ).bind fun d ρ1 => (match d, bagAt ρ1 i with | .int v, some (g, l, t, b) => .ok .nx (putS ρ1 i (k.put g l t b (k.get l0 t0 b0 + v))) | _, _ => .bad)
  | none => .bad
theorem ds_bagAug (i : Nat) (k : BK) {e : Expr} {m : M D} (hu : X.A.units + 1 < cLine) (h : DE X adr Wx e m) (hN : X.N[i]? = some x := by rfl) (hv : Vis X.env.scope x := by first | exact Or.inl rfl | exact Or.inr (Or.inl rfl) | exact Or.inr (Or.inr rfl)) (hd : (x == ("__debug__" : Str)) = false := by decide)
    (hcd : (x == ("__classdict__" : Str)) = false := by decide) (ha : ∀ ov iv new, augStore (.Constant (.str k.str) k0 p2) ov iv new = (do holding [new, ov, iv] (setItem ov iv new); release [new, ov, iv] []; pure .next) := by intros; rfl) :
    DS X adr Wx (.AugAssign (.Subscript (.Name x p1) (.Constant (.str k.str) k0 p2) p3) .Add e pos) (sBagAug i k m) := by
  obtain ⟨tt, pe, q⟩ := h
  refine ⟨_, ps_daug hu (pe_var hN hv hd hcd) pe_key pe in_add ha, fun W σ ρ F H E i' R p => ?_⟩
  unfold sBagAug at p
  cases e1 : bagAt ρ i with
  | none => rw [e1] at p; exact p.elim
  | some z0 =>
    obtain ⟨g0, l0, t0, b0⟩ := z0
    rw [e1] at p
    obtain ⟨a, q0, h1, h2, h3⟩ := R.bag_at e1
    refine ⟨_, h1, a, .int (k.get l0 t0 b0), rfl, .inl ⟨_, .inr k.str, .inl h3, rfl, (bag_get k q0 l0 t0 b0).symm⟩, q W σ ρ F H _ i' R (p.bind.imp fun d ρ1 F1 H1 s1 p v R1 r1 => ?_)⟩
    cases d <;> first | exact p.elim | skip
    rename_i v'
    cases e2 : bagAt ρ1 i with
    | none => rw [e2] at p; exact p.elim
    | some z =>
      obtain ⟨g, l, t, b⟩ := z
      rw [e2] at p
      obtain ⟨a', q', y1, y2, y3⟩ := R1.bag_at e2
      rw [h1] at y1
      cases y1
      rw [show v = V.int v' from r1]
      exact ⟨_, _, rfl, rfl, _, .inl ⟨_, .inr k.str, y3, rfl, (by rw [sizeLine_eq]; exact (by decide : (4 : Nat) < 16777216)), rfl⟩, p F1 _ (Same.refl _) σ (R1.bag_put k _ e2 h1 y3)⟩
/-- len(bag['great']) -/
def eBagLen (i : Nat) : M D := fun ρ => match bagAt ρ i with | some (g, _, _, _) => .ok (.int g.length) ρ | none => .bad
theorem de_bagLen (i : Nat) {p5 p4 : Pos} (hu : X.A.units + 1 < cLine) (hg : Gl X "len") (hm : X.mg "len" = none) (hN : X.N[i]? = some x := by rfl) (hv : Vis X.env.scope x := by first | exact Or.inl rfl | exact Or.inr (Or.inl rfl) | exact Or.inr (Or.inr rfl)) (hd : (x == ("__debug__" : Str)) = false := by decide)
    (hcd : (x == ("__classdict__" : Str)) = false := by decide) (hs : NoSl (.Constant (.str "great") k0 p2) := by exact fun _ _ => rfl)
    (he : starEach [.Subscript (.Name x p1) (.Constant (.str "great") k0 p2) p4] X.env = (false, eval (.Subscript (.Name x p1) (.Constant (.str "great") k0 p2) p4) X.env) :: starEach [] X.env := by rfl) (hpl : (backTo pos (starEach [] X.env)).any (·.1) = false := by rfl) :
    DE X adr Wx (.Call (.Name "len" p5) [.Subscript (.Name x p1) (.Constant (.str "great") k0 p2) p4] [] pos) (eBagLen i) := by
  refine ⟨_, pe_callB call_len hg hm PyProof.Rows.Boot.len (pa_cons (pe_dget hu (pe_var hN hv hd hcd) pe_key hs) pa_nil he) (by decide) (by decide) he hpl, fun W σ ρ F H Q i' R p => ?_⟩
  unfold eBagLen at p
  cases e : bagAt ρ i with
  | none => rw [e] at p; exact p.elim
  | some z =>
    obtain ⟨g, l, t, b⟩ := z
    rw [e] at p
    obtain ⟨a, q, h1, h2, h3⟩ := R.bag_at e
    refine ⟨_, h1, a, .ref q, rfl, .inl ⟨_, .inr "great", .inl h3, rfl, (bag_great q l t b).symm⟩, _, _, rfl, .inl ⟨_, .inl (.inl h2), rfl⟩, ?_⟩
    rw [List.length_map]
    exact p F H (Same.refl _) _ R rfl
/-- bag['great'].pop(0) -/
def eBagPop (i : Nat) : M D := fun ρ => match bagAt ρ i with | some (v :: g, l, t, b) => .ok (.int v) (putS ρ i (.bag g l t b)) | _ => .bad
theorem de_bagPop (i : Nat) {apos cpos p4 p6 : Pos} {k1 : Nat} (hu : X.A.units + 1 < cLine) (hN : X.N[i]? = some x := by rfl) (hv : Vis X.env.scope x := by first | exact Or.inl rfl | exact Or.inr (Or.inl rfl) | exact Or.inr (Or.inr rfl)) (hd : (x == ("__debug__" : Str)) = false := by decide)
    (hcd : (x == ("__classdict__" : Str)) = false := by decide) (hs : NoSl (.Constant (.str "great") k0 p2) := by exact fun _ _ => rfl)
    (hbase : attributeBase (.Subscript (.Name x p1) (.Constant (.str "great") k0 p2) p4) "pop" X.env (eval (.Subscript (.Name x p1) (.Constant (.str "great") k0 p2) p4) X.env) = eval (.Subscript (.Name x p1) (.Constant (.str "great") k0 p2) p4) X.env := by rfl)
    (hfew : ((backTo cpos (starEach [.Constant (.int 0) k1 p6] X.env)).all (fun x => !x.1) && (backToKw cpos (keywordEach [] X.env)).all (fun x => x.1.isSome)
      && decide (([Expr.Constant (.int 0) k1 p6]).length + ([] : List Keyword).length + (if ([] : List Keyword).isEmpty then 0 else 1) < 30)) = true := by rfl)
    (hline : (apos.endLine == cpos.line) = true := by rfl) (hst : starEach [.Constant (.int 0) k1 p6] X.env = (false, eval (.Constant (.int 0) k1 p6) X.env) :: starEach [] X.env := by rfl) (hplain : (backTo cpos (starEach [] X.env)).any (·.1) = false := by rfl) :
    DE X adr Wx (.Call (.Attribute (.Subscript (.Name x p1) (.Constant (.str "great") k0 p2) p4) "pop" apos) [.Constant (.int 0) k1 p6] [] cpos) (eBagPop i) := by
  refine ⟨_, pe_bm PySem.F.plainAttrs_list PySem.F.slot_list_pop PySem.F.type_list_pop mt_popAt (pe_dget hu (pe_var hN hv hd hcd) pe_key hs) (pa_cons pe_int pa_nil hst) hbase hfew hline hst hplain, fun W σ ρ F H Q i' R p => ?_⟩
  unfold eBagPop at p
  cases e : bagAt ρ i with
  | none => rw [e] at p; exact p.elim
  | some z =>
    obtain ⟨g, l, t, b⟩ := z
    rw [e] at p
    cases g with
    | nil => exact p.elim
    | cons v g =>
      obtain ⟨a, q, h1, h2, h3⟩ := R.bag_at e
      refine ⟨_, h1, a, .ref q, rfl, .inl ⟨_, .inr "great", .inl h3, rfl, (bag_great q l t b).symm⟩, .inl ⟨rfl, _, .inl (.inl h2)⟩, ?_⟩
      exact ⟨q, _, 0, 0, .int v, rfl, rfl, h2, by decide, by decide, (by unfold seqIndex?; simp), rfl, p F _ (Same.refl _) _ (R.bag_pop e h1 h3) rfl⟩
/-- {'great': xs, 'left': 0, 'turn': 0, 'blend': n} -/
def xBag (i j : Nat) : M Slot := fun ρ => match ρ[i]?, ρ[j]? with
  | some (.own (.lst l)), some (.frz (.int n)) => (match intsOf l with | some g => .ok (.own (.bag g 0 0 n)) (ρ.set i .no) | none => .bad)
  | _, _ => .bad
theorem dx_bag (i j : Nat) {x y : Str} {q1 q2 q3 q4 v1 v2 v3 v4 : Pos} {c1 c2 c3 c4 c5 c6 : Nat} (hij : i ≠ j := by decide) (hN : X.N[i]? = some x := by rfl) (hv : Vis X.env.scope x := by first | exact Or.inl rfl | exact Or.inr (Or.inl rfl) | exact Or.inr (Or.inr rfl)) (hd : (x == ("__debug__" : Str)) = false := by decide)
    (hcd : (x == ("__classdict__" : Str)) = false := by decide) (hN2 : X.N[j]? = some y := by rfl) (hv2 : Vis X.env.scope y := by first | exact Or.inl rfl | exact Or.inr (Or.inl rfl) | exact Or.inr (Or.inr rfl)) (hd2 : (y == ("__debug__" : Str)) = false := by decide)
    (hcd2 : (y == ("__classdict__" : Str)) = false := by decide) :
    DX X adr Wx (.Dict [some (.Constant (.str "great") c1 q1), some (.Constant (.str "left") c2 q2), some (.Constant (.str "turn") c3 q3), some (.Constant (.str "blend") c4 q4)] [.Name x v1, .Constant (.int 0) c5 v2, .Constant (.int 0) c6 v3, .Name y v4] pos) (xBag i j) := by
  refine ⟨_, pe_disp (pps_cons pe_key (pe_var hN hv hd hcd) (pps_cons pe_key pe_int (pps_cons pe_key pe_int (pps_cons pe_key (pe_var hN2 hv2 hd2 hcd2) pps_nil)))) rfl rfl (by simp) (by simp), fun W σ ρ F H Q i' R p => ?_⟩
  unfold xBag at p
  cases e1 : ρ[i]? with
  | none => rw [e1] at p; exact p.elim
  | some s1 =>
    rw [e1] at p
    cases e2 : ρ[j]? with
    | none => rw [e2] at p; cases s1 <;> first | exact p.elim | skip
              rename_i o; cases o <;> exact p.elim
    | some s2 =>
      rw [e2] at p
      cases s1 with
      | no => exact p.elim
      | frz _ => exact p.elim
      | io _ => exact p.elim
      | hnd _ _ => exact p.elim
      | own o =>
        cases o with
        | dK _ => exact p.elim
        | dT _ => exact p.elim
        | obj _ _ => exact p.elim
        | bag _ _ _ _ => exact p.elim
        | lst l =>
          cases s2 with
          | no => exact p.elim
          | own _ => exact p.elim
          | io _ => exact p.elim
          | hnd _ _ => exact p.elim
          | frz d =>
            cases d <;> first | exact p.elim | skip
            rename_i n
            simp only at p
            cases eg : intsOf l with
            | none => rw [eg] at p; exact p.elim
            | some g =>
              rw [eg] at p
              intro a ha
              obtain ⟨w, R0⟩ := R
              obtain ⟨q, z1, zw, us, z2, z3⟩ := R0.own_at e1 rfl
              obtain ⟨ov, z4, u, z5, z6⟩ := R0.slots j _ e2
              subst z5
              have hus : us = g.map V.int := by
                rw [intsOf_eq eg] at z3
                exact Reps.ints z3
              subst hus
              refine ⟨_, z1, _, z4, upd_same, [(.inr "great", .ref q), (.inr "left", .int 0), (.inr "turn", .int 0), (.inr "blend", u)], rfl, by simp, ?_⟩
              have hu : u = V.int n := z6
              subst hu
              rw [upd_upd]
              have em : mergeK [] [((.inr "great" : Key), V.ref q), (.inr "left", .int 0), (.inr "turn", .int 0), (.inr "blend", .int n)] = bagKv q 0 0 n := rfl
              rw [em]
              have R1 := R0.forget e1
              have hne : q ≠ a := fun e => by rw [e, ha] at z2; cases z2
              have hw1 : (fun b => if w b = some i then none else w b) a = none := by
                show (if w a = some i then none else w a) = none
                have := (R0.noG ha).2.2
                rw [this]; rfl
              have hFa := R0.free ha
              obtain ⟨hGa, h0a, _⟩ := R0.noG ha
              obtain ⟨o1, o2, o3⟩ := R0.owned q i zw
              have h0q : W.H0 q = none := by
                rcases o3 with z | ⟨_, s, y1, y2⟩
                · exact z
                · rw [e1] at y1; cases y1; exact y2.elim
              have hGq : W.G q = none := by
                cases e : W.G q with
                | none => rfl
                | some u => have := (R0.guard q u e).2.2; rw [zw] at this; cases this
              have R2 := R1.litter (p := a) (o := .dK (bagKv q 0 0 n)) ha
              refine p F _ (Same.refl _) _ ⟨fun b => if b = a ∨ b = q then some (ρ.set i .no).length else (if w b = some i then none else w b), R2.pushOwn (fun b k hb => ?_) (fun b k hb => ?_) ⟨if_pos (.inl rfl), q, if_pos (.inr rfl), by rw [upd_ne hne]; exact z2, upd_same⟩⟩ (fun z => z) (fun z => nomatch z)
              · have hb' : (if w b = some i then none else w b) = some k := hb
                rw [if_neg]
                · exact hb'
                · rintro (rfl | rfl)
                  · rw [show (if w b = some i then none else w b) = none from hw1] at hb'; cases hb'
                  · rw [if_pos zw] at hb'; cases hb'
              · by_cases hb2 : b = a ∨ b = q
                · rw [if_pos hb2] at hb
                  refine .inr ⟨(Option.some.inj hb).symm, ?_⟩
                  rcases hb2 with rfl | rfl
                  · exact ⟨hFa, (by rw [upd_same]; exact (Option.some_ne_none _)), h0a, hGa⟩
                  · exact ⟨o1, by rw [upd_ne hne]; exact o2, h0q, hGq⟩
                · rw [if_neg hb2] at hb; exact .inl hb
end
end DL

set_option maxHeartbeats 4000000
/-! DL16: short words for a text that a program writes. -/
namespace DL
open PySem L2 PyProof.Rows
/-- what callers know of a def, whatever runs -/
structure FnJ (cxm : Bool) (P : Program) (w : World) (K : PySem.W.Frag) (mg : Str → Option Value) (base : Heap) (adr : AdrT) (k : Nat) (f : Addr) (mf : Fn) (dl : List D) : Prop where
  ok : ∃ dv, (∀ F, Reps K adr F dl dv) ∧ FnR P w K mg base (MX cxm P w) k f (spF K adr mf dv)
section
variable {P : Program} {w0 : World} {K : PySem.W.Frag} {mg : Str → Option Value} {base : Heap} {adr : AdrT} {k j : Nat} {f : Addr} {mf : Fn} {dl : List D}
theorem FnJ.up (h : FnJ cxm P w0 K mg base adr j f mf dl) (hj : j ≤ k) : FnJ cxm P w0 K mg base adr k f mf dl := by
  obtain ⟨dv, h1, h2⟩ := h.ok
  exact ⟨dv, h1, h2.mono hj⟩
theorem FnJ.R (h : FnJ cxm P w0 K mg base adr k f mf []) : FnR P w0 K mg base (MX cxm P w0) k f (spD K adr mf) := by
  obtain ⟨dv, h1, h2⟩ := h.ok
  cases (h1 fun _ => none)
  exact h2.imp fun vs H Q E h => by
    show spD K adr mf (vs ++ []) H Q E
    rw [List.append_nil]; exact h
theorem FnJ.I {X : Cx} (h : FnJ cxm X.prog X.w X.K X.mg X.base adr k f mf dl) : FnI cxm X adr k f mf dl := ⟨h.ok⟩
def mfn (n p : Nat) (b : M Fl) : Fn := fun ss => if ss.length = p then fnRun n b ss else .bad
theorem fnR_of {fd : FuncData} {ps : List Str} {sp : Sp} (F : FnOk P w0 K mg base (MX cxm P w0) k f fd ps sp) (hb : Binds K fd ps []) : FnR P w0 K mg base (MX cxm P w0) k f sp := fun A outer s H us vs Q E hr e0 r hs => by
  have KX : K.In s.heap := e0.mod.kin.keeps fun b o e => (e0.bs b o e).1
  have hl : (us ++ []).length = ps.length := by
    rw [List.append_nil, ← r.length]; exact F.len _ _ _ _ hs
  have b := hb s us KX hl
  rw [List.append_nil] at b
  exact F.run A outer s H ⟨us, []⟩ us vs Q E hr e0 b r hs
theorem fnJ_of {x qual : Str} {st : Stmt} {fd : FuncData} {N ps : List Str} {b : M Fl} (Fu : Fun K x qual st f fd) (S : FnScope N ps (defScope st)) (hN : ps.length ≤ N.length) (hbd : Binds K fd ps [])
    (hb : ∀ (cdv : Value) (A : Around) (outer : List Env) (s : Shared) (H : Hp) (E : XK), Room k (A.deeper (envOfC qual (defScope st) s.heap.objs.size f cdv)) →
      DSs (cxOf (MX cxm P w0) P w0 K mg base N qual (defScope st) f cdv A outer s H E) adr (fun cls d _ H => E cls d H) (defBody st) b) : FnJ cxm P w0 K mg base adr (k + 1) f (mfn N.length ps.length b) [] := by
  have F : FnOk P w0 K mg base (MX cxm P w0) (k + 1) f fd ps (spD K adr (mfn N.length ps.length b)) := fnD Fu S hN (fun ss h => by
    unfold mfn at h ⊢
    by_cases c : ss.length = ps.length
    · exact ⟨c, by rw [if_pos c]⟩
    · rw [if_neg c] at h; exact absurd rfl h) hb
  refine ⟨[], fun _ => rfl, (fnR_of F hbd).imp fun vs H Q E h => ?_⟩
  have h : spD K adr (mfn N.length ps.length b) (vs ++ []) H Q E := h
  rw [List.append_nil] at h; exact h
end
section
variable {X : Cx} {adr : AdrT} {Wx : WX} {pos : Pos} {a b : Expr} {ma mb : M D}
theorem de_gI {x : Str} {i : Int} (hm : ∃ t, X.mg x = some (.int i t)) (hg : Gl X x := by rfl) (hd : (x == ("__debug__" : Str)) = false := by decide) : DE X adr Wx (.Name x pos) (eC (.int i)) := by
  obtain ⟨t, hm⟩ := hm; exact de_globI hg hm hd
theorem de_gS {x z : Str} (hm : ∃ t, X.mg x = some (.str z t)) (hg : Gl X x := by rfl) (hd : (x == ("__debug__" : Str)) = false := by decide) : DE X adr Wx (.Name x pos) (eC (.str z)) := by
  obtain ⟨t, hm⟩ := hm; exact de_globS hg hm hd
theorem de_add (ha : DE X adr Wx a ma) (hb : DE X adr Wx b mb) : DE X adr Wx (.BinOp a .Add b pos) (e2 fAdd ma mb) := de_op op_addD op2_add ha hb
theorem de_sub (ha : DE X adr Wx a ma) (hb : DE X adr Wx b mb) : DE X adr Wx (.BinOp a .Sub b pos) (e2 fSub ma mb) := de_op op_sub op2_sub ha hb
theorem de_mul (ha : DE X adr Wx a ma) (hb : DE X adr Wx b mb) : DE X adr Wx (.BinOp a .Mult b pos) (e2 fMul ma mb) := de_op op_mulD op2_mul ha hb
theorem de_div (ha : DE X adr Wx a ma) (hb : DE X adr Wx b mb) : DE X adr Wx (.BinOp a .FloorDiv b pos) (e2 fDiv ma mb) := de_op op_divX op2_div ha hb
theorem de_mod (ha : DE X adr Wx a ma) (hb : DE X adr Wx b mb) : DE X adr Wx (.BinOp a .Mod b pos) (e2 fMod ma mb) := de_op op_modN op2_mod ha hb
theorem de_pow (ha : DE X adr Wx a ma) (hb : DE X adr Wx b mb) : DE X adr Wx (.BinOp a .Pow b pos) (e2 fPow ma mb) := de_op op_powX op2_pow ha hb
theorem de_neg (ha : DE X adr Wx a ma) : DE X adr Wx (.UnaryOp .USub a pos) (e1 fNeg ma) := de_un un_neg op1_neg ha
theorem hu64 {k : Nat} (hr : Room k X.A) : X.A.units + 64 < cLine := hr.units
theorem hu65 {k : Nat} (hr : Room k X.A) : X.A.units + 65 < cLine := by have := hr.un; omega
variable {e : Expr} {es : List Expr} {p : Pos} {ms : M (List D)} {n : Nat}
theorem de_bLen (hm : X.mg "len" = none) (ha : DA X adr Wx (e :: es) ms) (hg : Gl X "len" := by rfl) (he : starEach (e :: es) X.env = (false, eval e X.env) :: starEach es X.env := by rfl) (hpl : (backTo pos (starEach es X.env)).any (·.1) = false := by rfl) : DE X adr Wx (.Call (.Name "len" p) (e :: es) [] pos) (eB fLen ms) := de_callB call_len cd_len hg hm (by decide +kernel) ha (by decide) (by decide) he hpl
theorem de_bAbs (hm : X.mg "abs" = none) (ha : DA X adr Wx (e :: es) ms) (hg : Gl X "abs" := by rfl) (he : starEach (e :: es) X.env = (false, eval e X.env) :: starEach es X.env := by rfl) (hpl : (backTo pos (starEach es X.env)).any (·.1) = false := by rfl) : DE X adr Wx (.Call (.Name "abs" p) (e :: es) [] pos) (eB fAbs ms) := de_callB call_abs cd_abs hg hm (by decide +kernel) ha (by decide) (by decide) he hpl
theorem de_bMax (hc : X.calm = true) (hm : X.mg "max" = none) (ha : DA X adr Wx (e :: es) ms) (hg : Gl X "max" := by rfl) (he : starEach (e :: es) X.env = (false, eval e X.env) :: starEach es X.env := by rfl) (hpl : (backTo pos (starEach es X.env)).any (·.1) = false := by rfl) : DE X adr Wx (.Call (.Name "max" p) (e :: es) [] pos) (eB fMax ms) := de_callB (cr_maxD hc) cd_max hg hm (by decide +kernel) ha (by decide) (by decide) he hpl
theorem de_bMin (hc : X.calm = true) (hm : X.mg "min" = none) (ha : DA X adr Wx (e :: es) ms) (hg : Gl X "min" := by rfl) (he : starEach (e :: es) X.env = (false, eval e X.env) :: starEach es X.env := by rfl) (hpl : (backTo pos (starEach es X.env)).any (·.1) = false := by rfl) : DE X adr Wx (.Call (.Name "min" p) (e :: es) [] pos) (eB fMin ms) := de_callB (cr_minD hc) cd_min hg hm (by decide +kernel) ha (by decide) (by decide) he hpl
theorem de_bSum (hc : X.calm = true) (hm : X.mg "sum" = none) (ha : DA X adr Wx (e :: es) ms) (hg : Gl X "sum" := by rfl) (he : starEach (e :: es) X.env = (false, eval e X.env) :: starEach es X.env := by rfl) (hpl : (backTo pos (starEach es X.env)).any (·.1) = false := by rfl) : DE X adr Wx (.Call (.Name "sum" p) (e :: es) [] pos) (eB fSum ms) := de_callB (cr_sum hc) cd_sum hg hm (by decide +kernel) ha (by decide) (by decide) he hpl
theorem de_bAll (hc : X.calm = true) (hm : X.mg "all" = none) (ha : DA X adr Wx (e :: es) ms) (hg : Gl X "all" := by rfl) (he : starEach (e :: es) X.env = (false, eval e X.env) :: starEach es X.env := by rfl) (hpl : (backTo pos (starEach es X.env)).any (·.1) = false := by rfl) : DE X adr Wx (.Call (.Name "all" p) (e :: es) [] pos) (eB fAll ms) := de_callB (cr_all hc) cd_all hg hm (by decide +kernel) ha (by decide) (by decide) he hpl
theorem de_bAny (hc : X.calm = true) (hm : X.mg "any" = none) (ha : DA X adr Wx (e :: es) ms) (hg : Gl X "any" := by rfl) (he : starEach (e :: es) X.env = (false, eval e X.env) :: starEach es X.env := by rfl) (hpl : (backTo pos (starEach es X.env)).any (·.1) = false := by rfl) : DE X adr Wx (.Call (.Name "any" p) (e :: es) [] pos) (eB fAny ms) := de_callB (cr_any hc) cd_any hg hm (by decide +kernel) ha (by decide) (by decide) he hpl
theorem de_bDivmod (hm : X.mg "divmod" = none) (ha : DA X adr Wx (e :: es) ms) (hg : Gl X "divmod" := by rfl) (he : starEach (e :: es) X.env = (false, eval e X.env) :: starEach es X.env := by rfl) (hpl : (backTo pos (starEach es X.env)).any (·.1) = false := by rfl) : DE X adr Wx (.Call (.Name "divmod" p) (e :: es) [] pos) (eB fDivmod ms) := de_callB call_divmodX cd_divmod hg hm (by decide +kernel) ha (by decide) (by decide) he hpl
theorem de_bInt (hm : X.mg "int" = none) (ha : DA X adr Wx (e :: es) ms) (hg : Gl X "int" := by rfl) (he : starEach (e :: es) X.env = (false, eval e X.env) :: starEach es X.env := by rfl) (hpl : (backTo pos (starEach es X.env)).any (·.1) = false := by rfl) : DE X adr Wx (.Call (.Name "int" p) (e :: es) [] pos) (eB fInt ms) := de_callTy call_int1 cd_int hg hm (by decide +kernel) ha (by decide) (by decide) he hpl
theorem de_bTuple (hm : X.mg "tuple" = none) (ha : DA X adr Wx (e :: es) ms) (hg : Gl X "tuple" := by rfl) (he : starEach (e :: es) X.env = (false, eval e X.env) :: starEach es X.env := by rfl) (hpl : (backTo pos (starEach es X.env)).any (·.1) = false := by rfl) : DE X adr Wx (.Call (.Name "tuple" p) (e :: es) [] pos) (eB fTuple ms) := de_callTy call_tuple_of cd_tuple hg hm (by decide +kernel) ha (by decide) (by decide) he hpl
theorem dx_blist (hm : X.mg "list" = none) (ha : DA X adr Wx (e :: es) ms) (hg : Gl X "list" := by rfl) (he : starEach (e :: es) X.env = (false, eval e X.env) :: starEach es X.env := by rfl) (hpl : (backTo pos (starEach es X.env)).any (·.1) = false := by rfl) : DX X adr Wx (.Call (.Name "list" p) (e :: es) [] pos) (xB fListOf ms) := dx_callTy call_list_of cx_list hg hm (by decide +kernel) ha (by decide) (by decide) he hpl
theorem dx_bSorted (hm : X.mg "sorted" = none) (ha : DA X adr Wx (e :: es) ms) (hg : Gl X "sorted" := by rfl) (he : starEach (e :: es) X.env = (false, eval e X.env) :: starEach es X.env := by rfl) (hpl : (backTo pos (starEach es X.env)).any (·.1) = false := by rfl) : DX X adr Wx (.Call (.Name "sorted" p) (e :: es) [] pos) (xB fSorted ms) := dx_callB cr_sortedI cx_sorted hg hm (by decide +kernel) ha (by decide) (by decide) he hpl
theorem de_lt (ha : DE X adr Wx a ma) (hb : DE X adr Wx b mb) (hm : behindInMarks .Lt b = false := by with_unfolding_all rfl) : DE X adr Wx (.Compare a [.Lt] [b] pos) (e2 fLt ma mb) := de_cmp op_lt op2_lt ha hb hm
theorem dt_lt (ha : DE X adr Wx a ma) (hb : DE X adr Wx b mb) (hm : behindInMarks .Lt b = false := by with_unfolding_all rfl) : DT X adr Wx (.Compare a [.Lt] [b] pos) (bE (e2 fLt ma mb)) := dt_cmp op_lt op2_lt ha hb hm
theorem de_le (ha : DE X adr Wx a ma) (hb : DE X adr Wx b mb) (hm : behindInMarks .LtE b = false := by with_unfolding_all rfl) : DE X adr Wx (.Compare a [.LtE] [b] pos) (e2 fLe ma mb) := de_cmp op_le op2_le ha hb hm
theorem dt_le (ha : DE X adr Wx a ma) (hb : DE X adr Wx b mb) (hm : behindInMarks .LtE b = false := by with_unfolding_all rfl) : DT X adr Wx (.Compare a [.LtE] [b] pos) (bE (e2 fLe ma mb)) := dt_cmp op_le op2_le ha hb hm
theorem de_gt (ha : DE X adr Wx a ma) (hb : DE X adr Wx b mb) (hm : behindInMarks .Gt b = false := by with_unfolding_all rfl) : DE X adr Wx (.Compare a [.Gt] [b] pos) (e2 fGt ma mb) := de_cmp op_gt op2_gt ha hb hm
theorem dt_gt (ha : DE X adr Wx a ma) (hb : DE X adr Wx b mb) (hm : behindInMarks .Gt b = false := by with_unfolding_all rfl) : DT X adr Wx (.Compare a [.Gt] [b] pos) (bE (e2 fGt ma mb)) := dt_cmp op_gt op2_gt ha hb hm
theorem de_ge (ha : DE X adr Wx a ma) (hb : DE X adr Wx b mb) (hm : behindInMarks .GtE b = false := by with_unfolding_all rfl) : DE X adr Wx (.Compare a [.GtE] [b] pos) (e2 fGe ma mb) := de_cmp op_ge op2_ge ha hb hm
theorem dt_ge (ha : DE X adr Wx a ma) (hb : DE X adr Wx b mb) (hm : behindInMarks .GtE b = false := by with_unfolding_all rfl) : DT X adr Wx (.Compare a [.GtE] [b] pos) (bE (e2 fGe ma mb)) := dt_cmp op_ge op2_ge ha hb hm
theorem de_isN (ha : DE X adr Wx a ma) (hb : DE X adr Wx b mb) (hm : behindInMarks .Is b = false := by with_unfolding_all rfl) : DE X adr Wx (.Compare a [.Is] [b] pos) (e2 fIs ma mb) := de_cmp op_isN op2_is ha hb hm
theorem dt_isN (ha : DE X adr Wx a ma) (hb : DE X adr Wx b mb) (hm : behindInMarks .Is b = false := by with_unfolding_all rfl) : DT X adr Wx (.Compare a [.Is] [b] pos) (bE (e2 fIs ma mb)) := dt_cmp op_isN op2_is ha hb hm
theorem de_isNot (ha : DE X adr Wx a ma) (hb : DE X adr Wx b mb) (hm : behindInMarks .IsNot b = false := by with_unfolding_all rfl) : DE X adr Wx (.Compare a [.IsNot] [b] pos) (e2 fIsNot ma mb) := de_cmp op_notN op2_isNot ha hb hm
theorem dt_isNot (ha : DE X adr Wx a ma) (hb : DE X adr Wx b mb) (hm : behindInMarks .IsNot b = false := by with_unfolding_all rfl) : DT X adr Wx (.Compare a [.IsNot] [b] pos) (bE (e2 fIsNot ma mb)) := dt_cmp op_notN op2_isNot ha hb hm
theorem de_eq {k : Nat} (hr : Room k X.A) (ha : DE X adr Wx a ma) (hb : DE X adr Wx b mb) (hm : behindInMarks .Eq b = false := by with_unfolding_all rfl) : DE X adr Wx (.Compare a [.Eq] [b] pos) (e2 fEq ma mb) := de_cmp (op_eqD (hu64 hr)) op2_eq ha hb hm
theorem dt_eq {k : Nat} (hr : Room k X.A) (ha : DE X adr Wx a ma) (hb : DE X adr Wx b mb) (hm : behindInMarks .Eq b = false := by with_unfolding_all rfl) : DT X adr Wx (.Compare a [.Eq] [b] pos) (bE (e2 fEq ma mb)) := dt_cmp (op_eqD (hu64 hr)) op2_eq ha hb hm
theorem de_ne {k : Nat} (hr : Room k X.A) (ha : DE X adr Wx a ma) (hb : DE X adr Wx b mb) (hm : behindInMarks .NotEq b = false := by with_unfolding_all rfl) : DE X adr Wx (.Compare a [.NotEq] [b] pos) (e2 fNe ma mb) := de_cmp (op_neD (hu64 hr)) op2_ne ha hb hm
theorem dt_ne {k : Nat} (hr : Room k X.A) (ha : DE X adr Wx a ma) (hb : DE X adr Wx b mb) (hm : behindInMarks .NotEq b = false := by with_unfolding_all rfl) : DT X adr Wx (.Compare a [.NotEq] [b] pos) (bE (e2 fNe ma mb)) := dt_cmp (op_neD (hu64 hr)) op2_ne ha hb hm
theorem de_in {k : Nat} (hr : Room k X.A) (ha : DE X adr Wx a ma) (hb : DE X adr Wx b mb) (hm : behindInMarks .In b = false := by with_unfolding_all rfl) : DE X adr Wx (.Compare a [.In] [b] pos) (e2 fIn ma mb) := de_cmp (op_inD' (hu65 hr)) op2_in ha hb hm
theorem dt_in {k : Nat} (hr : Room k X.A) (ha : DE X adr Wx a ma) (hb : DE X adr Wx b mb) (hm : behindInMarks .In b = false := by with_unfolding_all rfl) : DT X adr Wx (.Compare a [.In] [b] pos) (bE (e2 fIn ma mb)) := dt_cmp (op_inD' (hu65 hr)) op2_in ha hb hm
theorem de_notIn {k : Nat} (hr : Room k X.A) (ha : DE X adr Wx a ma) (hb : DE X adr Wx b mb) (hm : behindInMarks .NotIn b = false := by with_unfolding_all rfl) : DE X adr Wx (.Compare a [.NotIn] [b] pos) (e2 fNotIn ma mb) := de_cmp (op_notInD' (hu65 hr)) op2_notIn ha hb hm
theorem dt_notIn {k : Nat} (hr : Room k X.A) (ha : DE X adr Wx a ma) (hb : DE X adr Wx b mb) (hm : behindInMarks .NotIn b = false := by with_unfolding_all rfl) : DT X adr Wx (.Compare a [.NotIn] [b] pos) (bE (e2 fNotIn ma mb)) := dt_cmp (op_notInD' (hu65 hr)) op2_notIn ha hb hm
/-- a statement that is not reached -/
def sBad : M Fl := fun _ => .bad
theorem ds_bad {st : Stmt} : DS X adr Wx st sBad := ⟨fun _ _ _ => False, ⟨fun _ _ _ _ _ _ h => h.elim⟩, fun _ _ _ _ _ _ _ _ p => p⟩
end
end DL

set_option maxHeartbeats 4000000
/-! DL17: a walk over a list, a tuple or a text. -/
namespace DL
open PySem L2 PyProof.Rows PySem.Spec
def iAnyV (K : PySem.W.Frag) (tl : TE) : TI := fun σ H R => tl σ H fun x H1 => (∃ a, x = .ref a ∧ (∃ xs, SqL K H1 a xs) ∧ R (Itl K a) H1) ∨ (∃ a, x = .ref a ∧ (∃ xs, SqT K H1 a xs) ∧ R (Itt K a) H1) ∨ ∃ z, x = .str z ∧ R (Its z) H1
section
variable {X : Cx} {adr : AdrT} {Wx : WX} {pos : Pos} {tg : Expr}
theorem pi_anyV {l : Expr} {tl : TE} (hl : PE X l tl) : PI X tg l (iAnyV X.K tl) := by
  refine ⟨fun pins s σ H R I h => thn (hl.run pins s σ H _ I h) fun v s1 ⟨x, H1, I1, r1, q1⟩ => ?_⟩
  have one : ∀ b ∈ [s1.heap.objs.size], FpOk X pins H1 b := fun b hb => by
    cases List.mem_singleton.mp hb
    exact I1.fpOk (Nat.le_refl _) (I1.hok.fresh (Nat.le_refl _))
  rcases q1 with ⟨a, rfl, ⟨xs, hq⟩, q⟩ | ⟨a, rfl, ⟨xs, hq⟩, q⟩ | ⟨z, rfl, q⟩
  · cases r1
    obtain ⟨its, rv, p, hz⟩ := I1.list hq
    exact wpAny_pyIter_list p.isList ⟨_, [s1.heap.objs.size], _, _, H1, rfl, I1.kept (t' := s1.toks) (fun b o e => Heap.get?_push_of_some _ e), turn_list a _, ⟨_, Heap.get?_push_size _ rfl, rfl, rfl⟩, one, q⟩
  · cases r1
    obtain ⟨its, rv, p, hz⟩ := I1.tuple hq
    exact wpAny_pyIter_tuple (show s1.heap.IsTuple a its.toArray from p) ⟨_, [s1.heap.objs.size], _, _, H1, rfl, I1.kept (t' := s1.toks) (fun b o e => Heap.get?_push_of_some _ e), turn_tuple a _, ⟨_, Heap.get?_push_size _ rfl, rfl, rfl⟩, one, q⟩
  · obtain ⟨t, rfl⟩ := r1
    cases ha : z.cps.all (· < 128)
    · exact wpAny_pyIter_wide ha (pi_one (tk := s1.toks) I1 _ (turn_str _ z t "str_iterator" (.inr rfl)) ⟨_, Heap.get?_push_size _ rfl, rfl, rfl⟩ q)
    · exact wpAny_pyIter_ascii ha (pi_one (tk := s1.toks) I1 _ (turn_str _ z t "str_ascii_iterator" (.inl rfl)) ⟨_, Heap.get?_push_size _ rfl, rfl, rfl⟩ q)
def iAny (m : M D) : M (List D) := fun ρ => (m ρ).bind fun d ρ1 => match d with
  | .lst l => .ok l ρ1
  | .scr l => .ok (l.map D.int) ρ1
  | .tup l => .ok l ρ1
  | .str x => .ok (signs x) ρ1
  | _ => .bad
theorem di_any {e : Expr} {m : M D} (h : DE X adr Wx e m) : DI X adr Wx tg e (iAny m) := by
  obtain ⟨t, p, q⟩ := h
  refine ⟨_, pi_anyV p, fun W σ ρ F H Q i R p => q W σ ρ F H _ i R (p.bind.imp fun d ρ1 F1 H1 s1 p v R1 r1 => ?_)⟩
  cases d with
  | lst l =>
    obtain ⟨a, vs, rfl, e2, r⟩ := r1
    refine .inl ⟨a, rfl, ⟨vs, .inl (.inl (R1.sub _ _ e2))⟩, p F1 H1 (Same.refl _) _ R1 ?_⟩
    rw [i.k] at r ⊢; exact wlk_list (.inl (.inl e2)) r
  | scr l =>
    obtain ⟨a, rfl, e2⟩ := r1
    refine .inl ⟨a, rfl, ⟨_, by rw [← i.k]; exact R1.sub.seq e2⟩, p F1 H1 (Same.refl _) _ R1 ?_⟩
    rw [← i.k]; exact wlk_list e2 (Reps.ofInts l)
  | tup l =>
    obtain ⟨a, vs, rfl, e2, r⟩ := r1
    refine .inr (.inl ⟨a, rfl, ⟨vs, by rw [← i.k]; exact seqT_same R1.sub e2⟩, p F1 H1 (Same.refl _) _ R1 ?_⟩)
    rw [← i.k]; exact wlk_tup e2 r
  | str x => exact .inr (.inr ⟨x, r1, p F1 H1 (Same.refl _) _ R1 (wlk_str x)⟩)
  | _ => exact p.elim
end
end DL

set_option maxHeartbeats 4000000
/-! DL18: defs with default values. -/
namespace DL
open PySem L2 PyProof.Rows
section
variable {P : Program} {w0 : World} {K : PySem.W.Frag} {mg : Str → Option Value} {base : Heap} {adr : AdrT} {k : Nat} {f : Addr}
theorem fnR_ofD {fd : FuncData} {ps : List Str} {sp : Sp} {dv : List V} {ds : List Value} (F : FnOk P w0 K mg base (MX cxm P w0) k f fd ps sp) (hb : Binds K fd ps ds) (hd : Vals dv ds) : FnR P w0 K mg base (MX cxm P w0) k f (fun vs H Q E => sp (vs ++ dv) H Q E) := fun A outer s H us vs Q E hr e0 r hs => by
  have KX : K.In s.heap := e0.mod.kin.keeps fun b o e => (e0.bs b o e).1
  have r2 : Vals (vs ++ dv) (us ++ ds) := r.append hd
  have hl : (us ++ ds).length = ps.length := by
    rw [← r2.length]; exact F.len _ _ _ _ hs
  exact F.run A outer s H ⟨us, []⟩ (us ++ ds) (vs ++ dv) Q E hr e0 (hb s us KX hl) r2 hs
theorem fnJ_ofD {x qual : Str} {st : Stmt} {fd : FuncData} {N ps : List Str} {b : M Fl} {dvs dv : List V} {dl : List D} {ds : List Value} (Fu : FunD K x qual (defArgs st) (defBody st) (defScope st) dvs [] f fd) (S : FnScope N ps (defScope st)) (hN : ps.length ≤ N.length)
    (hbd : Vals dv ds ∧ Binds K fd ps ds) (hR : ∀ F, Reps K adr F dl dv)
    (hb : ∀ (cdv : Value) (A : Around) (outer : List Env) (s : Shared) (H : Hp) (E : XK), Room k (A.deeper (envOfC qual (defScope st) s.heap.objs.size f cdv)) →
      DSs (cxOf (MX cxm P w0) P w0 K mg base N qual (defScope st) f cdv A outer s H E) adr (fun cls d _ H => E cls d H) (defBody st) b) : FnJ cxm P w0 K mg base adr (k + 1) f (mfn N.length ps.length b) dl := by
  have F : FnOk P w0 K mg base (MX cxm P w0) (k + 1) f fd ps (spD K adr (mfn N.length ps.length b)) := by
    refine Fu.ok S (fun vs H Q E h => ?_) (fun cdv A outer s H vs Q E hr h => ?_)
    · obtain ⟨F, w, ss, P, h⟩ := h
      rw [P.len]
      unfold mfn at h
      by_cases c : ss.length = ps.length
      · exact c
      · rw [if_neg c] at h; exact h.elim
    · obtain ⟨F, w, ss, P, h⟩ := h
      unfold mfn at h
      by_cases c : ss.length = ps.length
      · rw [if_pos c] at h
        obtain ⟨t, pt, q⟩ := hb cdv A outer s H E hr
        refine ⟨t, pt, q (cWd K adr w vs ss F H) _ _ F H _ ⟨rfl, rfl⟩ (P.start (N := N) (by omega)) ?_⟩
        unfold fnRun at h
        cases e : b (ss ++ List.replicate (N.length - ss.length) .no) with
        | bad => rw [e] at h; exact h
        | exc c d ρ =>
          rw [e] at h
          exact fun σ cls dx F' H' s R x => h cls dx F' H' σ ρ R x rfl
        | ok fl ρ =>
          rw [e] at h
          intro F' H' s
          cases fl with
          | nx => exact fun σ R => h _ F' H' σ ρ (R.pushFrz (d := .non) rfl) (fun z => z) (fun z => nomatch z) rfl
          | bk => exact h.elim
          | ct => exact h.elim
          | rt s => exact fun σ v R h1 h2 => h v F' H' σ ρ R h1 h2 rfl
      · rw [if_neg c] at h; exact h.elim
  exact ⟨dv, hR, fnR_ofD F hbd.2 hbd.1⟩
end
end DL

set_option maxHeartbeats 4000000
/-! DL19: sorted({k: True for ..}); slices backwards. -/
namespace DL
open PySem L2 PyProof.Rows
section
variable {W : Wd} {w : Own} {σ : List (Option V)} {ρ : List Slot} {F H : Hp} {B : Addr} {o o' : HO}
theorem ERel.guardedH (R : ERel W σ ρ F H) (hB : H B = none) : ERel (W.gh B o) σ ρ F (upd H B o) := by
  obtain ⟨w, R⟩ := R
  have R' := R.litter (o := o) hB
  refine ⟨w, R'.len, R'.sub, R'.alive, R'.old, R'.keep, R'.fix, R'.owned, fun a u e => ?_, R'.slots⟩
  by_cases ha : a = B
  · subst ha
    have e : upd W.G a o a = some u := e
    rw [upd_same] at e
    cases e
    exact ⟨upd_same, R.free hB, (R.noG hB).2.2⟩
  · have e : upd W.G B o a = some u := e
    rw [upd_ne ha] at e
    exact R'.guard a u e
theorem gh_at (R : ERel (W.gh B o) σ ρ F H) : H B = some o := by
  obtain ⟨w, R⟩ := R
  exact (R.guard B o upd_same).1
theorem ERel.unguardH (R : ERel (W.gh B o) σ ρ F H) (hG : W.G B = none) : ERel W σ ρ F H := by
  obtain ⟨w, R⟩ := R
  refine ⟨w, R.len, R.sub, R.alive, R.old, R.keep, R.fix, R.owned, fun a u e => R.guard a u ?_, R.slots⟩
  show upd W.G B o a = some u
  rw [upd_ne (fun q => by subst q; rw [hG] at e; cases e)]
  exact e
theorem ERel.regdH (R : ERel (W.gh B o) σ ρ F H) (h0 : W.H0 B = none) : ERel (W.gh B o') σ ρ F (upd H B o') := by
  obtain ⟨w, R⟩ := R
  obtain ⟨g1, g2, g3⟩ := R.guard B o upd_same
  refine ⟨w, R.len, fun a u e => ?_, fun a z => ?_, R.old, fun a u e z => ?_, R.fix, fun a i e => ?_, fun a u e => ?_, fun i s e => ?_⟩
  · rw [upd_ne (fun q => by subst q; rw [g2] at e; cases e)]; exact R.sub a u e
  · by_cases ha : a = B
    · subst ha; rw [upd_same]; exact fun z => nomatch z
    · rw [upd_ne ha]; exact R.alive a z
  · have e' : W.H0 a = some u := e
    rw [upd_ne (fun q => by subst q; rw [h0] at e'; cases e')]; exact R.keep a u e z
  · obtain ⟨h1, h2, h3⟩ := R.owned a i e
    rw [upd_ne (fun q => by subst q; rw [g3] at e; cases e)]
    exact ⟨h1, h2, h3⟩
  · by_cases ha : a = B
    · subst ha
      have e : upd W.G a o' a = some u := e
      rw [upd_same] at e
      cases e
      exact ⟨upd_same, g2, g3⟩
    · have e : upd W.G B o' a = some u := e
      rw [upd_ne ha] at e
      rw [upd_ne ha]
      exact R.guard a u (by show upd W.G B o a = some u; rw [upd_ne ha]; exact e)
  · obtain ⟨ov, h1, h2⟩ := R.slots i s e
    refine ⟨ov, h1, h2.stay (Same.refl _) fun a z => ⟨z, fun u q => ?_⟩⟩
    rw [upd_ne (fun q => by subst q; rw [g3] at z; cases z)]; exact q
end
/-- each once, in the order in which they came -/
def onceI (acc : List Int) : List Int → List Int
  | [] => acc
  | n :: ns => if n ∈ acc then onceI acc ns else onceI (acc ++ [n]) ns
abbrev keysT (ks : List Int) : List (Key × V) := ks.map fun n => (.inl n, .bl true)
theorem putK_keys (ks : List Int) (n : Int) : putK (keysT ks) (.inl n) (.bl true) = keysT (if n ∈ ks then ks else ks ++ [n]) := by
  have hany : ((keysT ks).any fun kv => decide (kv.1 = (Sum.inl n : Key))) = decide (n ∈ ks) := by
    induction ks with
    | nil => rfl
    | cons k ks ih =>
      show (decide ((Sum.inl k : Key) = .inl n) || (keysT ks).any fun kv => decide (kv.1 = (Sum.inl n : Key))) = _
      rw [ih]
      by_cases e : k = n
      · subst e; simp
      · have e2 : ¬ n = k := fun z => e z.symm
        simp [e, e2]
  unfold putK
  rw [hany]
  by_cases h : n ∈ ks
  · rw [if_pos (by simp [h]), if_pos h]
    clear hany h
    induction ks with
    | nil => rfl
    | cons k ks ih =>
      show (if (Sum.inl k : Key) = .inl n then ((Sum.inl k : Key), V.bl true) else (.inl k, .bl true)) :: _ = _
      rw [show (if (Sum.inl k : Key) = .inl n then ((Sum.inl k : Key), V.bl true) else (.inl k, .bl true)) = (.inl k, .bl true) by split <;> rfl]
      exact congrArg _ ih
  · rw [if_neg (by simp [h]), if_neg h]
    simp [keysT]
section
variable {X : Cx} {adr : AdrT} {Wx : WX} {pos : Pos}
def xSortKeys (vs : List Nat) (mi : M (List D)) (g : Tg) (tt : M Bool) (el : M D) : M Slot := fun ρ => (mi ρ).bind fun l ρ1 => if noIo ρ1 vs = true ∧ l.length ≤ 16777216 then
  (noX (compT vs g tt el l (wipeS ρ1 vs))).bind fun ys ρ2 => (match intsOf ys with | some ns => (if (onceI [] ns).length < 64 then .ok (.own (.lst ((sortI (onceI [] ns)).map D.int))) (restS ρ1 ρ2 vs) else .bad) | none => .bad) else .bad
theorem onceI_le : ∀ (ns acc : List Int), (onceI acc ns).length ≤ acc.length + ns.length
  | [], acc => by simp [onceI]
  | n :: ns, acc => by
    unfold onceI
    split
    · have := onceI_le ns acc; simp only [List.length_cons]; omega
    · have := onceI_le ns (acc ++ [n]); simp only [List.length_cons, List.length_append, List.length_nil] at *; omega
theorem tDcK_ok {mi : M (List D)} {wi : TI} {g : Tg} {tt : M Bool} {el : M D} {vs : List Nat}
    (qi : ∀ W σ ρ F H (Q : It → Hp → Prop), In X adr W → ERel W σ ρ F H → Po W F Wx (fun l ρ1 F1 H1 => ∀ J, ERel W σ ρ1 F1 H1 → Wlk W.K W.adr F1 J l → Q J H1) (mi ρ) → wi σ H Q)
    {W : Wd} {σ : List (Option V)} {ρ : List Slot} {F H : Hp} {Q Q2 : V → Hp → Prop} (hQ : ∀ H2 a ks, H2 a = some (.dK (keysT ks)) → ks.length < 64 → (∀ p, H2 p = none → Q (.ref p) (upd H2 p (.lst ((sortI ks).map V.int)))) → Q2 (.ref a) H2) (i : In X adr W) (R : ERel W σ ρ F H) (p : PoX W σ F Wx Q (xSortKeys vs mi g tt el ρ)) :
    tDc wi (cG X.K adr vs g) (cT X.K adr tt) (cE X.K adr el) (tC (.bl true)) vs σ H Q2 := by
  refine qi W σ ρ F H _ i R (p.bind.imp fun l ρ1 F1 H1 s1 p J R1 wl B hB => ?_)
  by_cases hc : noIo ρ1 vs = true ∧ l.length ≤ 16777216
  · rw [if_pos hc] at p
    obtain ⟨hio, hlen⟩ := hc
    obtain ⟨hG1, hG2⟩ : W.G B = none ∧ W.H0 B = none := R1.elim fun _ R => ⟨(R.noG hB).1, (R.noG hB).2.1⟩
    have hsz : sizeLine = 16777216 := sizeLine_eq
    let Inv' : Nat → Hp → Prop := fun j H => j ≤ l.length ∧ ∃ ks ρ F, Same F1 F ∧ ERel (W.gh B (.dK (keysT ks))) (L2.wipe σ vs) ρ F H ∧ ks.length ≤ j ∧
      ∃ zs ρe ns, compT vs g tt el (l.drop j) ρ = .ok zs ρe ∧ intsOf zs = some ns ∧ (onceI ks ns).length < 64 ∧ PoX W σ F1 Wx Q (.ok (.own (.lst ((sortI (onceI ks ns)).map D.int))) (restS ρ1 ρe vs))
    have start : Inv' 0 (upd H1 B (.dK [])) := by
      cases e : compT vs g tt el l (wipeS ρ1 vs) with
      | bad => rw [e] at p; exact p.elim
      | exc c d ρ => rw [e] at p; exact p.elim
      | ok zs ρe =>
        rw [e] at p
        simp only [noX, Res.bind_ok] at p
        cases en : intsOf zs with
        | none => rw [en] at p; exact p.elim
        | some ns =>
          rw [en] at p
          simp only at p
          by_cases h64 : (onceI [] ns).length < 64
          · rw [if_pos h64] at p
            exact ⟨Nat.zero_le _, [], wipeS ρ1 vs, F1, Same.refl _, (R1.wipe hio).guardedH hB, Nat.le_refl _, zs, ρe, ns, by rw [List.drop_zero]; exact e, en, h64, p⟩
          · rw [if_neg h64] at p; exact p.elim
    refine ⟨fun j m H => m = l.length - j ∧ Inv' j H, ⟨l.length, rfl, start⟩, ?_⟩
    rintro j m H2 ⟨rfl, hj, ks, ρ2, F2, s2, R2, hks, zs, ρe, ns, ez, en, h64, pz⟩
    have Wk : ∀ o, (W.gh B o).K = W.K := fun _ => rfl
    have iK : ∀ o, (W.gh B o).K = X.K := fun _ => i.k
    have iA : ∀ o, (W.gh B o).adr = adr := fun _ => i.a
    by_cases hlt : j < l.length
    · have e : l[j]? = some l[j] := List.getElem?_eq_getElem hlt
      refine .inr ⟨wl.go j _ (W.gh B _) _ _ _ _ e rfl rfl s2 R2, fun H' => Inv' (j + 1) H', fun H' h => ⟨l.length - (j + 1), by omega, rfl, h⟩, fun x H3 y => ?_⟩
      obtain ⟨F3, s3, R3, r3⟩ := wl.yld j _ (W.gh B _) _ _ _ _ x H3 e rfl rfl s2 R2 y
      rw [List.drop_eq_getElem_cons hlt, compT] at ez
      cases eg : g l[j] ρ2 with
      | none => simp only [eg] at ez; cases ez
      | some ρ3 =>
        simp only [eg] at ez
        refine ⟨W.gh B (.dK (keysT ks)), ρ2, ρ3, F3, l[j], iK _, iA _, R3, r3, eg, fun σ' R' w' => ⟨w'.trans (wipe_wipe _ _), W.gh B (.dK (keysT ks)), ρ3, F3, iK _, iA _, R', ?_⟩⟩
        have w'' : L2.wipe σ' vs = L2.wipe σ vs := w'.trans (wipe_wipe _ _)
        cases et : tt ρ3 with
        | bad => rw [et] at ez; cases ez
        | exc c d ρ => rw [et] at ez; cases ez
        | ok b ρ4 =>
          rw [et] at ez
          simp only [noX, Res.bind_ok] at ez
          intro F4 H4 s4 R4
          cases b with
          | true =>
            simp only [if_true] at ez ⊢
            refine ⟨W.gh B (.dK (keysT ks)), ρ4, F4, iK _, iA _, R4, ?_⟩
            cases ee : el ρ4 with
            | bad => rw [ee] at ez; cases ez
            | exc c d ρ => rw [ee] at ez; cases ez
            | ok yv ρ5 =>
              rw [ee] at ez
              simp only [noX, Res.bind_ok] at ez
              intro F5 H5 s5 v R5 r5
              by_cases hn : noIo ρ5 vs = true
              · rw [if_pos hn] at ez
                cases er : compT vs g tt el (l.drop (j + 1)) (wipeS ρ5 vs) with
                | bad => rw [er] at ez; cases ez
                | exc c d ρ => rw [er] at ez; cases ez
                | ok zs' ρe' =>
                  rw [er] at ez
                  simp only [Res.bind_ok] at ez
                  cases ez
                  have en2 := intsOf_some en
                  cases ns with
                  | nil => cases en2
                  | cons n ns' =>
                    simp only [List.map_cons, List.cons.injEq] at en2
                    obtain ⟨rfl, en3⟩ := en2
                    have hv : v = V.int n := r5
                    subst hv
                    refine ⟨keysT ks, .inl n, rfl, gh_at R5, by rw [List.length_map]; omega, by omega, if n ∈ ks then ks else ks ++ [n], wipeS ρ5 vs, F5, ((s2.trans s3).trans s4).trans s5, ?_, ?_, zs', ρe, ns', er, by rw [en3]; exact intsOf_map _, ?_, ?_⟩
                    · rw [putK_keys]; exact (R5.rewipe w'' hn).regdH hG2
                    · split
                      · omega
                      · rw [List.length_append]; simp; omega
                    · unfold onceI at h64
                      split at h64 <;> rename_i hm
                      · rw [if_pos hm]; exact h64
                      · rw [if_neg hm]; exact h64
                    · unfold onceI at pz
                      split at pz <;> rename_i hm
                      · rw [if_pos hm]; exact pz
                      · rw [if_neg hm]; exact pz
              · rw [if_neg hn] at ez; cases ez
          | false =>
            simp only [Bool.false_eq_true, if_false] at ez ⊢
            by_cases hn : noIo ρ4 vs = true
            · rw [if_pos hn] at ez
              exact ⟨by omega, ks, wipeS ρ4 vs, F4, (s2.trans s3).trans s4, R4.rewipe w'' hn, by omega, zs, ρe, ns, ez, en, h64, pz⟩
            · rw [if_neg hn] at ez; cases ez
    · have e : j = l.length := by omega
      subst e
      rw [List.drop_length, compT] at ez
      cases ez
      cases en
      refine .inl ⟨wl.stop (W.gh B _) _ _ _ _ rfl rfl s2 R2, hQ _ _ _ (gh_at R2) h64 fun q hq => ?_⟩
      have R3 : ERel W σ (restS ρ1 ρ2 vs) F2 H2 := ERel.unguardH (ERel.rest (W0 := W) (W := W.gh B (.dK (keysT ks))) rfl rfl R1 s2 R2) hG1
      exact pz F2 _ s2 (.ref q) (R3.newOwn hq (Reps.ofInts _)) (fun z => z) (fun z => nomatch z)
  · rw [if_neg hc] at p; exact p.elim
abbrev rSDI : List V → Hp → VK → Prop := fun xs H Q => ∃ (a : Addr) (kvs : List (Key × V)) (ks : List Int), xs = [.ref a] ∧ Rd H a (.dK kvs) ∧ kvs.map (·.1) = ks.map Sum.inl ∧ ks.length < 64 ∧ ∀ (ys : List Int) (p : Addr), ys.Perm ks → ys.Pairwise (· ≤ ·) → H p = none → Q (.ref p) (upd H p (.lst (ys.map V.int)))
theorem dx_sortKeys {kx tg iter : Expr} {ifs : List Expr} {scope : Scope} {own : List (Str × Nat)} {p pos2 pos3 : Pos} {j : Nat} {mi : M (List D)} {g : Tg} {tt : M Bool} {el : M D} (hm : X.mg "sorted" = none) (hc : X.calm = true) (hN : X.N.Nodup) (hi : DI X adr Wx tg iter mi) (ok : BlkOk X.N X.env.scope scope own)
    (hg : ∀ (s : Shared) (H : Hp) (C : Addr) (cl : List (Str × Addr)) (fp : List Addr), DGw (X.blk s H scope (compEnvC scope cl C X.env) fp) adr (own.map (·.2)) tg g)
    (ht : ∀ (s : Shared) (H : Hp) (C : Addr) (cl : List (Str × Addr)) (fp : List Addr), DTs (X.blk s H scope (compEnvC scope cl C X.env) fp) adr ifs tt)
    (he : ∀ (s : Shared) (H : Hp) (C : Addr) (cl : List (Str × Addr)) (fp : List Addr), DE (X.blk s H scope (compEnvC scope cl C X.env) fp) adr Wx0 kx el) (hgl : Gl X "sorted" := by rfl)
    (hs : ∀ x, foldedSetIterable iter X.env x = pure x := by intro _; rfl)
    (hst : starEach [.DictComp kx (.Constant (.bool true) j pos3) [⟨tg, iter, ifs, 0⟩] scope pos2] X.env = (false, eval (.DictComp kx (.Constant (.bool true) j pos3) [⟨tg, iter, ifs, 0⟩] scope pos2) X.env) :: starEach [] X.env := by rfl) (hpl : (backTo pos (starEach [] X.env)).any (·.1) = false := by rfl) :
    DX X adr Wx (.Call (.Name "sorted" p) [.DictComp kx (.Constant (.bool true) j pos3) [⟨tg, iter, ifs, 0⟩] scope pos2] [] pos) (xSortKeys (own.map (·.2)) mi g tt el) := by
  obtain ⟨ti, pi, qi⟩ := hi
  refine ⟨_, pe_callB (call_sortedDI hc) hgl hm (by decide +kernel) (pa_cons (pe_dc (g := cG X.K adr (own.map (·.2)) g) (tt := cT X.K adr tt) (tk := cE X.K adr el) (tv := tC (.bl true)) hc hN pi ok (fun s H C cl fp => (hg s H C cl fp).c) (fun s H C cl fp => ht s H C cl fp) (fun s H C cl fp => (he s H C cl fp).c) (fun s H C cl fp => pe_bl) hs) pa_nil hst) (by decide) (by decide) hst hpl, fun W σ ρ F H Q i R p => ?_⟩
  refine tDcK_ok (Q := Q) (Q2 := fun v H1 => rSDI [v] H1 Q) qi (fun H2 a ks h1 h2 h3 => ?_) i R p
  refine ⟨a, keysT ks, ks, rfl, .inl h1, by simp [keysT], h2, fun ys q hp ho hn => ?_⟩
  rw [sortI_unique hp ho]
  exact h3 q hn
/-! ### xs[::-1] -/
def fRev : D → Option (List D)
  | .lst l => some l.reverse
  | .scr l => some (l.map D.int).reverse
  | _ => none
def xRev (m : M D) : M Slot := fun ρ => (m ρ).bind fun d ρ1 => opt ((fRev d).map fun l => .own (.lst l)) ρ1
theorem dx_rev {e : Expr} {m : M D} {k : Nat} {p1 p2 p3 : Pos} (h : DE X adr Wx e m) : DX X adr Wx (.Subscript e (.Slice none none (some (.UnaryOp .USub (.Constant (.int 1) k p1) p2)) p3) pos) (xRev m) := by
  obtain ⟨t, p, q⟩ := h
  refine ⟨_, pe_revL p, fun W σ ρ F H Q i R p => q W σ ρ F H _ i R (p.bind.imp fun d ρ1 F1 H1 s1 p v R1 r1 => ?_)⟩
  cases d <;> first | exact p.elim | skip
  · rename_i l
    obtain ⟨a, vs, rfl, e2, r⟩ := r1
    exact ⟨a, vs, rfl, .inl (.inl (R1.sub _ _ e2)), fun q hq => p F1 _ (Same.refl _) _ (R1.newOwn hq r.reverse) (fun z => z) (fun z => nomatch z)⟩
  · rename_i l
    obtain ⟨a, rfl, e2⟩ := r1
    exact ⟨a, _, rfl, by rw [← i.k]; exact R1.sub.seq e2, fun q hq => p F1 _ (Same.refl _) _ (R1.newOwn hq (Reps.ofInts l).reverse) (fun z => z) (fun z => nomatch z)⟩
/-! ### own == as a test -/
theorem dt_eqO {k : Nat} {f : Addr} (c : Nat) (ts : List TyT) {mf : Fn} {a b : Expr} {ma mb : M Ar} (G : FnR X.prog X.w X.K X.mg X.base (MX cxm X.prog X.w) k f (spD X.K adr mf)) (hr : Room k X.A) (hs : PySem.W.findIn X.K (.ref (adr c)) "__eq__" = some (some (.ref f))) (hf : PySem.W.isFn X.K (.ref f) = true)
    (hT : ∀ k, .own k ∈ ts → InsT X.K (adr k)) (hn : ∀ t ∈ ts, PySem.W.notFirst X.K (adr c) (t.val adr) = true) (ha : DO X adr Wx a ma) (hb : DO X adr Wx b mb) (hm : behindInMarks .Eq b = false := by with_unfolding_all rfl) : DT X adr Wx (.Compare a [.Eq] [b] pos) (bE (eEqO c ts mf false ma mb)) := by
  obtain ⟨ta, pa, qa⟩ := ha
  obtain ⟨tb, pb, qb⟩ := hb
  exact ⟨_, pt_cmpR (op_eqO G hr hs hf) pa pb hm, tTest_ok (eqO_ok qa qb hT hn)⟩
theorem dt_neO {k : Nat} {f : Addr} (c : Nat) (ts : List TyT) {mf : Fn} {a b : Expr} {ma mb : M Ar} (G : FnR X.prog X.w X.K X.mg X.base (MX cxm X.prog X.w) k f (spD X.K adr mf)) (hr : Room (k + 1) X.A) (hs : PySem.W.findIn X.K (.ref (adr c)) "__eq__" = some (some (.ref f))) (hf : PySem.W.isFn X.K (.ref f) = true)
    (hne : PySem.W.findIn X.K (.ref (adr c)) "__ne__" = some (some (.builtin "object.__ne__"))) (hmo : PySem.W.mroIn X.K (adr c) (.type "object") = some true)
    (hT : ∀ k, .own k ∈ ts → InsT X.K (adr k)) (hn : ∀ t ∈ ts, PySem.W.notFirst X.K (adr c) (t.val adr) = true) (ha : DO X adr Wx a ma) (hb : DO X adr Wx b mb) (hm : behindInMarks .NotEq b = false := by with_unfolding_all rfl) : DT X adr Wx (.Compare a [.NotEq] [b] pos) (bE (eEqO c ts mf true ma mb)) := by
  obtain ⟨ta, pa, qa⟩ := ha
  obtain ⟨tb, pb, qb⟩ := hb
  exact ⟨_, pt_cmpR (op_neO G hr hs hf hne hmo) pa pb hm, tTest_ok (eqO_ok qa qb hT hn)⟩
end
end DL

set_option maxHeartbeats 4000000
/-! DL20: names that hold data or a thing that a caller may change. -/
namespace DL
open PySem L2
def eFldA (c : Nat) (f : Str) (i : Nat) : M D := fun ρ => match ρ[i]? with
  | some (.frz d) => opt (fFld c f d) ρ
  | _ => eFldI c f i ρ
def oA (i : Nat) : M Ar := fun ρ => match ρ[i]? with
  | some (.frz d) => .ok (.d d) ρ
  | _ => oIo i ρ
section
variable {X : Cx} {adr : AdrT} {Wx : WX} {pos : Pos}
theorem de_fldA (c i : Nat) {x f : Str} {p1 : Pos} (hc : Cls X.K (adr c)) (hn : NoAttr X.K (adr c) f) (hN : X.N[i]? = some x := by rfl) (hv : Vis X.env.scope x := by first | exact Or.inl rfl | exact Or.inr (Or.inl rfl) | exact Or.inr (Or.inr rfl)) (hd : (x == ("__debug__" : Str)) = false := by decide)
    (hcd : (x == ("__classdict__" : Str)) = false := by decide) (hb : attributeBase (.Name x p1) f X.env (eval (.Name x p1) X.env) = eval (.Name x p1) X.env := by rfl) : DE X adr Wx (.Attribute (.Name x p1) f pos) (eFldA c f i) := by
  refine ⟨_, pe_fld (pe_var hN hv hd hcd) hb, fun W σ ρ F H Q i' R p => ?_⟩
  have inst : PoD W σ F Wx Q (eFldI c f i ρ) → tFld X.K (tVar i) f σ H Q := fun p => by
    unfold eFldI at p
    cases ef : (ρ[i]?).bind fsOf with
    | none => rw [ef] at p; exact p.elim
    | some z =>
      obtain ⟨c', fs⟩ := z
      rw [ef] at p
      by_cases hcc : c' = c
      · subst hcc
        simp only [if_true] at p
        obtain ⟨a, dx, fv, h1, h2, h3, h4⟩ := slot_obj R ef
        cases el : fs.lookup f with
        | none => rw [el] at p; exact p.elim
        | some d =>
          rw [el] at p
          obtain ⟨v, e3, r3⟩ := lookup_rep h3 h4 el
          rw [i'.a] at h2
          exact ⟨_, h1, a, adr c', dx, fv, v, rfl, h2, hc, hn, e3, p F H (Same.refl _) v R r3⟩
      · simp only [if_neg hcc] at p; exact p.elim
  unfold eFldA at p
  cases e : ρ[i]? with
  | none => rw [e] at p; exact inst p
  | some s =>
    cases s with
    | frz d =>
      rw [e] at p
      obtain ⟨w, R0⟩ := id R
      obtain ⟨ov, h1, v0, e0, r1⟩ := R0.slots i _ e
      subst e0
      obtain ⟨d', e1, pp⟩ := opt_some p
      cases d <;> simp only [fFld, reduceCtorEq] at e1
      split at e1
      · rename_i c' l hcc
        subst hcc
        obtain ⟨a, dx, fv, rfl, h2, h3, h4⟩ := r1
        obtain ⟨z1, z2⟩ := zip_names h3 h4
        obtain ⟨v, e3, r3⟩ := lookup_rep (fs := (clsNames c').zip l) (fv := fv) z1.symm (by rw [z2]; exact h4) e1
        rw [i'.a] at h2
        exact ⟨_, h1, a, adr c', dx, fv, v, rfl, R.sub _ _ h2, hc, hn, e3, pp F H (Same.refl _) v R r3⟩
      · cases e1
    | no => rw [e] at p; exact inst p
    | own o => rw [e] at p; exact inst p
    | io o => rw [e] at p; exact inst p
    | hnd c' d' => rw [e] at p; exact inst p
theorem do_A (i : Nat) {x : Str} (hN : X.N[i]? = some x := by rfl) (hv : Vis X.env.scope x := by first | exact Or.inl rfl | exact Or.inr (Or.inl rfl) | exact Or.inr (Or.inr rfl)) (hd : (x == ("__debug__" : Str)) = false := by decide)
    (hcd : (x == ("__classdict__" : Str)) = false := by decide) : DO X adr Wx (.Name x pos) (oA i) := by
  refine ⟨_, pe_var hN hv hd hcd, fun W σ ρ F H Q i' R p => ?_⟩
  have inst : Po W F Wx (fun x ρ' F' H' => ∀ v, ERel W σ ρ' F' H' → ArRep W σ F' [x] [v] → Q v H') (oIo i ρ) → tVar i σ H Q := fun p => by
    unfold oIo at p
    cases e : slO ρ i with
    | none => rw [e] at p; exact p.elim
    | some o =>
      rw [e] at p
      obtain ⟨s, g1, g2⟩ := slO_some e
      obtain ⟨w, R0⟩ := id R
      obtain ⟨a, z1, z2⟩ := R0.own_at g1 g2
      exact ⟨_, z1, p F H (Same.refl _) _ R ⟨_, [], rfl, z1, rfl⟩⟩
  unfold oA at p
  cases e : ρ[i]? with
  | none => rw [e] at p; exact inst p
  | some s =>
    cases s with
    | frz d =>
      rw [e] at p
      obtain ⟨w, R0⟩ := id R
      obtain ⟨ov, h1, v0, e0, r1⟩ := R0.slots i _ e
      subst e0
      exact ⟨_, h1, p F H (Same.refl _) _ R ⟨_, [], rfl, r1, rfl⟩⟩
    | no => rw [e] at p; exact inst p
    | own o => rw [e] at p; exact inst p
    | io o => rw [e] at p; exact inst p
    | hnd c' d' => rw [e] at p; exact inst p
end
end DL

set_option maxHeartbeats 4000000
/-! DL21: texts: split, startswith, count, join, int(text), str(number), isinstance of built-in types, text * number. -/
namespace DL
open PySem L2
def strsOf : List D → Option (List Str)
  | [] => some []
  | .str x :: l => (strsOf l).map (x :: ·)
  | _ => none
theorem strsOf_some : ∀ {l : List D} {ns : List Str}, strsOf l = some ns → l = ns.map D.str
  | [], _, e => by cases e; rfl
  | .str x :: l, ns, e => by
    simp only [strsOf, Option.map_eq_some_iff] at e
    obtain ⟨m, e1, rfl⟩ := e
    rw [strsOf_some e1]; rfl
theorem strsOf_map : ∀ ns : List Str, strsOf (ns.map D.str) = some ns
  | [] => rfl
  | n :: ns => by show (strsOf (ns.map D.str)).map (n :: ·) = _; rw [strsOf_map ns]; rfl
theorem Reps.strs {K : PySem.W.Frag} {adr : AdrT} {F : Hp} : ∀ {ns : List Str} {vs : List V}, Reps K adr F (ns.map D.str) vs → vs = ns.map V.str
  | [], _, r => r
  | n :: ns, _, ⟨v, vs, e, h, r⟩ => by rw [e, show v = V.str n from h, Reps.strs r]; rfl
theorem Reps.ofStrs {K : PySem.W.Frag} {adr : AdrT} {F : Hp} : ∀ ns : List Str, Reps K adr F (ns.map D.str) (ns.map V.str)
  | [] => rfl
  | n :: ns => ⟨_, _, rfl, rfl, Reps.ofStrs ns⟩
/-! ### methods of a text with one argument -/
def eS1 (f : Str → D → Option D) (mo ma : M D) : M D := fun ρ => (mo ρ).bind fun x ρ1 => match x with
  | .str a => (ma ρ1).bind fun y ρ2 => opt (f a y) ρ2
  | _ => .bad
def xS1 (f : Str → D → Option (List D)) (mo ma : M D) : M Slot := fun ρ => (mo ρ).bind fun x ρ1 => match x with
  | .str a => (ma ρ1).bind fun y ρ2 => opt ((f a y).map fun d => .own (.lst d)) ρ2
  | _ => .bad
section
variable {X : Cx} {adr : AdrT} {Wx : WX} {pos apos : Pos}
def SmD (X : Cx) (adr : AdrT) (r : V → List V → Hp → VK → Prop) (f : Str → D → Option D) : Prop := ∀ W σ ρ F H Q a y v d, In X adr W → ERel W σ ρ F H → Rep W.K W.adr F y v → f a y = some d →
  (∀ z F' H', Same F F' → ERel W σ ρ F' H' → Rep W.K W.adr F' d z → Q z H') → r (.str a) [v] H Q
def SmX (X : Cx) (adr : AdrT) (r : V → List V → Hp → VK → Prop) (f : Str → D → Option (List D)) : Prop := ∀ W σ ρ F H Q a y v d, In X adr W → ERel W σ ρ F H → Rep W.K W.adr F y v → f a y = some d →
  (∀ z F' H', Same F F' → ERel W (σ ++ [some z]) (ρ ++ [.own (.lst d)]) F' H' → Q z H') → r (.str a) [v] H Q
theorem de_s1 {id : String} {name : Str} {r : V → List V → Hp → VK → Prop} {f : Str → D → Option D} {o e : Expr} {mo ma : M D} (slot : PySem.Slot "str" name id) (ty : typeOf (.builtin id) = pure (.type "method_descriptor")) (rule : MtR X id r) (hf : SmD X adr r f)
    (ho : DE X adr Wx o mo) (ha : DE X adr Wx e ma) (hs : starEach [e] X.env = [(false, eval e X.env)] := by rfl) (hbase : attributeBase o name X.env (eval o X.env) = eval o X.env := by rfl) (hline : (apos.endLine == pos.line) = true := by rfl) :
    DE X adr Wx (.Call (.Attribute o name apos) [e] [] pos) (eS1 f mo ma) := by
  obtain ⟨to, po, qo⟩ := ho
  obtain ⟨ta, pa, qa⟩ := ha
  refine ⟨_, pe_m1 slot ty rule po pa hs hbase hline, fun W σ ρ F H Q i R p => qo W σ ρ F H _ i R (p.bind.imp fun x ρ1 F1 H1 s1 p v R1 r1 => ?_)⟩
  cases x with
  | str a =>
    have e1 : v = V.str a := r1
    subst e1
    refine ⟨⟨a, rfl⟩, qa W σ ρ1 F1 H1 _ i R1 (Po.imp (Po.bind p) fun y ρ2 F2 H2 s2 p u R2 r2 => ?_)⟩
    obtain ⟨d, e, p⟩ := opt_some p
    exact hf W σ ρ2 F2 H2 Q a y u d i R2 r2 e fun z F3 H3 s3 R3 r3 => p F3 H3 s3 z R3 r3
  | _ => exact p.elim
theorem dx_s1 {id : String} {name : Str} {r : V → List V → Hp → VK → Prop} {f : Str → D → Option (List D)} {o e : Expr} {mo ma : M D} (slot : PySem.Slot "str" name id) (ty : typeOf (.builtin id) = pure (.type "method_descriptor")) (rule : MtR X id r) (hf : SmX X adr r f)
    (ho : DE X adr Wx o mo) (ha : DE X adr Wx e ma) (hs : starEach [e] X.env = [(false, eval e X.env)] := by rfl) (hbase : attributeBase o name X.env (eval o X.env) = eval o X.env := by rfl) (hline : (apos.endLine == pos.line) = true := by rfl) :
    DX X adr Wx (.Call (.Attribute o name apos) [e] [] pos) (xS1 f mo ma) := by
  obtain ⟨to, po, qo⟩ := ho
  obtain ⟨ta, pa, qa⟩ := ha
  refine ⟨_, pe_m1 slot ty rule po pa hs hbase hline, fun W σ ρ F H Q i R p => qo W σ ρ F H _ i R (p.bind.imp fun x ρ1 F1 H1 s1 p v R1 r1 => ?_)⟩
  cases x with
  | str a =>
    have e1 : v = V.str a := r1
    subst e1
    refine ⟨⟨a, rfl⟩, qa W σ ρ1 F1 H1 _ i R1 (Po.imp (Po.bind p) fun y ρ2 F2 H2 s2 p u R2 r2 => ?_)⟩
    obtain ⟨d, e, p⟩ := opt_some p
    obtain ⟨d', e', rfl⟩ := Option.map_eq_some_iff.mp e
    exact hf W σ ρ2 F2 H2 Q a y u d' i R2 r2 e' fun z F3 H3 s3 R3 => p F3 H3 s3 z R3 (fun z => z) (fun z => nomatch z)
  | _ => exact p.elim
noncomputable def fSplit (a : Str) : D → Option (List D)
  | .str b => if (b.length == 0) = false ∧ a.length + 2 ≤ LINE then some ((Txt.split a b).map D.str) else none
  | _ => none
noncomputable def fStarts (a : Str) : D → Option D
  | .str b => some (.bl (Txt.startswith a b))
  | _ => none
noncomputable def fCount (a : Str) : D → Option D
  | .str b => some (.int (Txt.count a b))
  | _ => none
noncomputable def fJoin (a : Str) (y : D) : Option D := match seqOf y with
  | some l => match strsOf l with
    | some ys => if (ys.map (·.length)).sum + ys.length * a.length ≤ 16777216 then some (.str (Txt.join a ys)) else none
    | none => none
  | none => none
theorem sx_split : SmX X adr (fun x xs H Q => ∃ a b, x = .str a ∧ xs = [.str b] ∧ (b.length == 0) = false ∧ a.length + 2 ≤ sizeLine ∧ rNewStrs (Txt.split a b) H Q) fSplit := fun W σ ρ F H Q a y v d i R ry e q => by
  cases y with
  | str b =>
    have e1 : v = V.str b := ry
    subst e1
    simp only [fSplit] at e
    split at e
    · rename_i h
      cases e
      refine ⟨a, b, rfl, rfl, h.1, by rw [← line_eq]; exact h.2, fun p hp => ?_⟩
      exact q _ F _ (Same.refl _) (R.newOwn hp (Reps.ofStrs _))
    · cases e
  | _ => cases e
theorem sm_starts : SmD X adr (fun x xs H Q => ∃ a b, x = .str a ∧ xs = [.str b] ∧ Q (.bl (Txt.startswith a b)) H) fStarts := fun W σ ρ F H Q a y v d i R ry e q => by
  cases y with
  | str b =>
    have e1 : v = V.str b := ry
    subst e1
    cases e
    exact ⟨a, b, rfl, rfl, q _ F H (Same.refl _) R rfl⟩
  | _ => cases e
theorem sm_count : SmD X adr (fun x xs H Q => ∃ a b, x = .str a ∧ xs = [.str b] ∧ Q (.int (Txt.count a b)) H) fCount := fun W σ ρ F H Q a y v d i R ry e q => by
  cases y with
  | str b =>
    have e1 : v = V.str b := ry
    subst e1
    cases e
    exact ⟨a, b, rfl, rfl, q _ F H (Same.refl _) R rfl⟩
  | _ => cases e
theorem sm_join : SmD X adr (fun x xs H Q => ∃ a p, ∃ ys : List Str, x = .str a ∧ xs = [.ref p] ∧ (SqL X.K H p (ys.map V.str) ∨ SqT X.K H p (ys.map V.str)) ∧
    (ys.map (·.length)).sum + ys.length * a.length ≤ 16777216 ∧ Q (.str (Txt.join a ys)) H) fJoin := fun W σ ρ F H Q a y v d i R ry e q => by
  unfold fJoin at e
  cases y with
  | lst l =>
    simp only [seqOf] at e
    cases e2 : strsOf l with
    | none => rw [e2] at e; cases e
    | some ys =>
      simp only [e2] at e
      split at e
      · rename_i hz
        cases e
        obtain ⟨p, vs, rfl, h1, h2⟩ := ry
        rw [strsOf_some e2] at h2
        have := Reps.strs h2
        subst this
        exact ⟨a, p, ys, rfl, rfl, .inl (.inl (.inl (R.sub _ _ h1))), hz, q _ F H (Same.refl _) R rfl⟩
      · cases e
  | tup l =>
    simp only [seqOf] at e
    cases e2 : strsOf l with
    | none => rw [e2] at e; cases e
    | some ys =>
      simp only [e2] at e
      split at e
      · rename_i hz
        cases e
        obtain ⟨p, vs, rfl, h1, h2⟩ := ry
        rw [strsOf_some e2] at h2
        have := Reps.strs h2
        subst this
        exact ⟨a, p, ys, rfl, rfl, .inr (by rw [← i.k]; exact seqT_same R.sub h1), hz, q _ F H (Same.refl _) R rfl⟩
      · cases e
  | scr l => simp [seqOf] at e
  | _ => cases e
theorem dx_split {o e : Expr} {mo ma : M D} (ho : DE X adr Wx o mo) (ha : DE X adr Wx e ma) (hs : starEach [e] X.env = [(false, eval e X.env)] := by rfl) (hbase : attributeBase o "split" X.env (eval o X.env) = eval o X.env := by rfl) (hline : (apos.endLine == pos.line) = true := by rfl) :
    DX X adr Wx (.Call (.Attribute o "split" apos) [e] [] pos) (xS1 fSplit mo ma) := dx_s1 F.slot_str_split F.type_str_split mt_split sx_split ho ha hs hbase hline
theorem de_starts {o e : Expr} {mo ma : M D} (ho : DE X adr Wx o mo) (ha : DE X adr Wx e ma) (hs : starEach [e] X.env = [(false, eval e X.env)] := by rfl) (hbase : attributeBase o "startswith" X.env (eval o X.env) = eval o X.env := by rfl) (hline : (apos.endLine == pos.line) = true := by rfl) :
    DE X adr Wx (.Call (.Attribute o "startswith" apos) [e] [] pos) (eS1 fStarts mo ma) := de_s1 F.slot_str_startswith F.type_str_startswith mt_startswith sm_starts ho ha hs hbase hline
theorem de_count {o e : Expr} {mo ma : M D} (ho : DE X adr Wx o mo) (ha : DE X adr Wx e ma) (hs : starEach [e] X.env = [(false, eval e X.env)] := by rfl) (hbase : attributeBase o "count" X.env (eval o X.env) = eval o X.env := by rfl) (hline : (apos.endLine == pos.line) = true := by rfl) :
    DE X adr Wx (.Call (.Attribute o "count" apos) [e] [] pos) (eS1 fCount mo ma) := de_s1 F.slot_str_count F.type_str_count mt_count sm_count ho ha hs hbase hline
theorem de_join {o e : Expr} {mo ma : M D} (ho : DE X adr Wx o mo) (ha : DE X adr Wx e ma) (hs : starEach [e] X.env = [(false, eval e X.env)] := by rfl) (hbase : attributeBase o "join" X.env (eval o X.env) = eval o X.env := by rfl) (hline : (apos.endLine == pos.line) = true := by rfl) :
    DE X adr Wx (.Call (.Attribute o "join" apos) [e] [] pos) (eS1 fJoin mo ma) := de_s1 F.slot_str_join F.type_str_join mt_join sm_join ho ha hs hbase hline
/-! ### int(text), str(x) -/
noncomputable def fIntS : List D → Option D
  | [.str a] => match PySem.intText? a with
    | some n => if a.length ≤ 640 then some (.int n) else none
    | none => none
  | _ => none
noncomputable def fStr : List D → Option D
  | [.str a] => some (.str a)
  | [.int i] => if i.natAbs.log2 < 1920 then some (.str (toString i)) else none
  | _ => none
theorem cd_intS : CallD X adr (fun xs H Q => ∃ a n, xs = [.str a] ∧ PySem.intText? a = some n ∧ a.length ≤ 640 ∧ Q (.int n) H) fIntS := fun W σ ρ F H Q l vs d i R r e q => by
  match l, e with
  | [.str a], e =>
    obtain ⟨v, _, rfl, h1, rfl⟩ := r
    have e1 : v = V.str a := h1
    subst e1
    simp only [fIntS] at e
    cases e2 : PySem.intText? a with
    | none => rw [e2] at e; cases e
    | some n =>
      simp only [e2] at e
      split at e
      · cases e; exact ⟨a, n, rfl, e2, by assumption, q _ F H (Same.refl _) R rfl⟩
      · cases e
abbrev rStrD : List V → Hp → VK → Prop := fun xs H Q => (∃ i, xs = [.int i] ∧ i.natAbs.log2 < 1920 ∧ Q (.str (toString i)) H) ∨ ∃ a, xs = [.str a] ∧ Q (.str a) H
theorem cd_str : CallD X adr rStrD fStr := fun W σ ρ F H Q l vs d i R r e q => by
  match l, e with
  | [.str a], e =>
    obtain ⟨v, _, rfl, h1, rfl⟩ := r
    have e1 : v = V.str a := h1
    subst e1
    cases e
    exact .inr ⟨a, rfl, q _ F H (Same.refl _) R rfl⟩
  | [.int k], e =>
    obtain ⟨v, _, rfl, h1, rfl⟩ := r
    have e1 : v = V.int k := h1
    subst e1
    simp only [fStr] at e
    split at e
    · cases e; exact .inl ⟨k, rfl, by assumption, q _ F H (Same.refl _) R rfl⟩
    · cases e
variable {e : Expr} {es : List Expr} {p : Pos} {ms : M (List D)}
theorem de_bIntS (hm : X.mg "int" = none) (ha : DA X adr Wx (e :: es) ms) (hg : Gl X "int" := by rfl) (he : starEach (e :: es) X.env = (false, eval e X.env) :: starEach es X.env := by rfl) (hpl : (backTo pos (starEach es X.env)).any (·.1) = false := by rfl) : DE X adr Wx (.Call (.Name "int" p) (e :: es) [] pos) (eB fIntS ms) :=
  de_callTy call_int_str cd_intS hg hm (by decide +kernel) ha (by decide) (by decide) he hpl
theorem de_bStr (hm : X.mg "str" = none) (ha : DA X adr Wx (e :: es) ms) (hg : Gl X "str" := by rfl) (he : starEach (e :: es) X.env = (false, eval e X.env) :: starEach es X.env := by rfl) (hpl : (backTo pos (starEach es X.env)).any (·.1) = false := by rfl) : DE X adr Wx (.Call (.Name "str" p) (e :: es) [] pos) (eB fStr ms) :=
  de_callTy (call_str_int.or SkE.call_str_str) cd_str hg hm (by decide +kernel) ha (by decide) (by decide) he hpl
/-! ### isinstance of a built-in type -/
theorem de_isiT (t : String) (ts : List TyT) {a : Expr} {y : Str} {p2 : Pos} {m : M Ar} (h : DO X adr Wx a m) (hy : X.mg y = none) (hv : bootBuiltins y = some (.type t)) (hT : ∀ k, .own k ∈ ts → InsT X.K (adr k)) (hk : ∀ u ∈ ts, PySem.W.kitOne X.K (u.val adr) (.type t) = some (decide (u = .ty t)))
    (hm : X.mg "isinstance" = none) (hg : Gl X "isinstance" := by rfl) (hgy : Gl X y := by rfl) (hn : y ≠ "__name__" := by decide) (hd : (y == ("__debug__" : Str)) = false := by decide)
    (he : starEach [a, .Name y p2] X.env = (false, eval a X.env) :: starEach [.Name y p2] X.env := by rfl) (he2 : starEach [.Name y p2] X.env = (false, eval (.Name y p2) X.env) :: starEach [] X.env := by rfl) (hpl : (backTo pos (starEach [.Name y p2] X.env)).any (·.1) = false := by rfl) :
    DE X adr Wx (.Call (.Name "isinstance" p) [a, .Name y p2] [] pos) (eIsi (.ty t) ts m) :=
  de_isi (.ty t) ts h (pe_bltn (v := .ty t) hgy hy hv rfl hn hd) (.ty t) hT hk hg hm he he2 hpl
end
end DL

set_option maxHeartbeats 4000000
/-! DL22: an own def called with each parameter by its name. -/
namespace DL
open PySem L2 PyProof.Rows
/-- as FnR, the values passed by the names ps -/
def FnRK (P : Program) (w : World) (K : PySem.W.Frag) (mg : Str → Option Value) (base : Heap) (CX : CXT) (k : Nat) (f : Addr) (ps : List Str) (sp : Sp) : Prop :=
  ∀ (A : Around) (outer : List Env) (s : Shared) (H : Hp) (us : List Value) (vs : List V) (Q : VK) (E : XK), Room k A → Env0 P w K mg base A outer s H → Vals vs us → sp vs H Q E →
    codeAny (model P w) A (.call (.ref f) ⟨[], ps.zip us⟩) (CR CX outer P w H s Q E) s
def KwB (fd : FuncData) (ps : List Str) : Prop := ∀ us : List Value, us.length = ps.length → bindArgs fd ⟨[], ps.zip us⟩ = pure (ps.zip us)
theorem Fun.kwb {K : PySem.W.Frag} {x qual : Str} {st : Stmt} {f : Addr} {fd : FuncData} {ps : List Str} (F : Fun K x qual st f fd)
    (h : ∀ (kV doc pm : Value) (an : Option Addr) (cdv ct : Value) (us : List Value), us.length = ps.length → bindArgs (PySem.W.fnOf x qual (defArgs st) (defBody st) (defScope st) .none kV doc pm an cdv ct) ⟨[], ps.zip us⟩ = pure (ps.zip us)) : KwB fd ps := by
  obtain ⟨oc, od, kV, doc, pm, an, cdv, ct, osl, rfl, lk, hcd⟩ := F.ex
  exact h kV doc pm an cdv ct
section
variable {P : Program} {w0 : World} {K : PySem.W.Frag} {mg : Str → Option Value} {base : Heap} {adr : AdrT} {k j : Nat} {f : Addr} {mf : Fn} {dl : List D}
theorem fnRK_of {CX : CXT} {sp : Sp} {fd : FuncData} {ps : List Str} (F : FnOk P w0 K mg base CX k f fd ps sp) (hb : KwB fd ps) : FnRK P w0 K mg base CX k f ps sp := fun A outer s H us vs Q E hr e0 r h => by
  have hl : us.length = ps.length := by rw [← r.length]; exact F.len _ _ _ _ h
  exact F.run A outer s H ⟨[], ps.zip us⟩ us vs Q E hr e0 (.of_eq (hb us hl)) r h
structure FnJK (cxm : Bool) (P : Program) (w : World) (K : PySem.W.Frag) (mg : Str → Option Value) (base : Heap) (adr : AdrT) (k : Nat) (f : Addr) (ps : List Str) (mf : Fn) : Prop where
  ok : FnRK P w K mg base (MX cxm P w) k f ps (spD K adr mf)
theorem fnJK_of {x qual : Str} {st : Stmt} {fd : FuncData} {N ps : List Str} {b : M Fl} (Fu : Fun K x qual st f fd) (S : FnScope N ps (defScope st)) (hN : ps.length ≤ N.length) (hbd : KwB fd ps)
    (hb : ∀ (cdv : Value) (A : Around) (outer : List Env) (s : Shared) (H : Hp) (E : XK), Room k (A.deeper (envOfC qual (defScope st) s.heap.objs.size f cdv)) →
      DSs (cxOf (MX cxm P w0) P w0 K mg base N qual (defScope st) f cdv A outer s H E) adr (fun cls d _ H => E cls d H) (defBody st) b) : FnJK cxm P w0 K mg base adr (k + 1) f ps (mfn N.length ps.length b) := by
  have F : FnOk P w0 K mg base (MX cxm P w0) (k + 1) f fd ps (spD K adr (mfn N.length ps.length b)) := fnD Fu S hN (fun ss h => by
    unfold mfn at h ⊢
    by_cases c : ss.length = ps.length
    · exact ⟨c, by rw [if_pos c]⟩
    · rw [if_neg c] at h; exact absurd rfl h) hb
  exact ⟨fnRK_of F hbd⟩
end
section
variable {X : Cx} {adr : AdrT} {Wx : WX} {pos kpos : Pos}
def DK (X : Cx) (adr : AdrT) (Wx : WX) (kws : List Keyword) (m : M (List Ar)) : Prop := ∃ t, PK X kws t ∧ ∀ W σ ρ F H Q, In X adr W → ERel W σ ρ F H → Po W F Wx (GA W σ Q) (m ρ) → t σ H Q
theorem dk_nil : DK X adr Wx [] rNil := ⟨_, pk_nil, fun W σ ρ F H Q i R p => p F H (Same.refl _) _ R rfl⟩
theorem dk_d {nm : Option Str} {e : Expr} {es : List Keyword} {m : M D} {ms : M (List Ar)} (h : DE X adr Wx e m) (hs : DK X adr Wx es ms) : DK X adr Wx (⟨nm, e, kpos⟩ :: es) (rD m ms) := by
  obtain ⟨t, p, q⟩ := h
  obtain ⟨ts, ps, qs⟩ := hs
  exact ⟨_, pk_cons p ps, fun W σ ρ F H Q i R p => q W σ ρ F H _ i R (p.bind.imp fun x ρ1 F1 H1 s1 p u R1 r1 => qs W σ ρ1 F1 H1 _ i R1 (p.bind.imp fun l ρ2 F2 H2 s2 p vs R2 r2 =>
    p F2 H2 (Same.refl _) _ R2 ⟨u, vs, rfl, Rep.mono s2 _ _ r1, r2⟩))⟩
variable {k : Nat} {f : Addr} {x : Str} {p : Pos} {kws : List Keyword} {ps : List Str}
theorem run_fnRKS {pins : List (Addr × Obj)} {σ : L2.St} {H : Hp} {s : Shared} {sp : Sp} {Q : VK} {us : List Value} {vs : List V} (F : FnRK X.prog X.w X.K X.mg X.base (MX cxm X.prog X.w) k f ps sp) (hr : Room k X.A) (tk : TK cxm X Wx) (I : Inv X pins σ H s) (r : Vals vs us) (h : sp vs H Q (WE Wx σ)) :
    wpAny (model X.prog X.w) X.A (call (.ref f) [] (ps.zip us)) (EP X pins σ Q) X.xe s := by
  refine wpAny_call (codeAny_mono (F X.A X.stack s H us vs Q _ hr I.env0 r h) fun r s' hq => ?_)
  cases r with
  | error e => exact passAtM tk σ pins H s e s' I hq
  | ok fl =>
    cases fl with
    | ret u => exact I.after hq
    | next => exact False.elim hq
    | brk => exact False.elim hq
    | cont => exact False.elim hq
theorem pe_callKD {sp : Sp} {t : TA} (F : FnRK X.prog X.w X.K X.mg X.base (MX cxm X.prog X.w) k f ps sp) (hr : Room k X.A) (tk : TK cxm X Wx) (hg : Gl X x) (hm : X.mg x = some (.ref f)) (hk : PySem.W.keepIn X.K (.ref f) = true)
    (hkw : PK X kws t) (hall : (backToKw pos (keywordEach kws X.env)).all (·.1.isSome) = true := by rfl) (hks : (backToKw pos (keywordEach kws X.env)).filterMap (·.1) = ps := by rfl) (hdb : (x == ("__debug__" : Str)) = false := by decide)
    (hpl : ((backTo pos (starEach [] X.env)).any (·.1) || (backToKw pos (keywordEach kws X.env)).any (·.1.isNone)) = false := by rfl) :
    PE X (.Call (.Name x p) [] kws pos) (tC_ sp Wx t) := by
  refine ⟨fun pins s σ H Q I h => ?_⟩
  refine wpAny_Call_Name_kw (ld_glob I hg hm ?_ hdb)
  refine PySem.W.callWith_KW0 (h₀ := X.base) I.ok.mod.kin hk hall ?_ hpl
  refine thn (hkw.run pos pins s σ H _ I h) fun ws s2 ⟨zs, H2, I2, rz, q2⟩ => ⟨I2.kIn, ?_⟩
  rw [hks]
  exact run_fnRKS F hr tk I2 rz q2
theorem dx_callK {mf : Fn} {ms : M (List Ar)} (G : FnRK X.prog X.w X.K X.mg X.base (MX cxm X.prog X.w) k f ps (spD X.K adr mf)) (hr : Room k X.A) (tk : TK cxm X Wx) (hm : X.mg x = some (.ref f)) (hk : PySem.W.keepIn X.K (.ref f) = true) (ha : DK X adr Wx kws ms) (hg : Gl X x := by rfl)
    (hall : (backToKw pos (keywordEach kws X.env)).all (·.1.isSome) = true := by rfl) (hks : (backToKw pos (keywordEach kws X.env)).filterMap (·.1) = ps := by rfl) (hdb : (x == ("__debug__" : Str)) = false := by decide)
    (hpl : ((backTo pos (starEach [] X.env)).any (·.1) || (backToKw pos (keywordEach kws X.env)).any (·.1.isNone)) = false := by rfl) :
    DX X adr Wx (.Call (.Name x p) [] kws pos) (xC mf [] ms) := by
  obtain ⟨t, pa, q⟩ := ha
  refine ⟨_, pe_callKD G hr tk hg hm hk pa hall hks hdb hpl, fun W σ ρ F H Q i R p => q W σ ρ F H _ i R (p.bind.imp fun xs ρ1 F1 H1 s1 p vs R1 r1 => ?_)⟩
  have p : PoX W σ F1 Wx Q (callF mf (xs ++ ([] : List D).map .d) ρ1) := p
  rw [show xs ++ ([] : List D).map Ar.d = xs from List.append_nil _] at p
  have h := callF_sp R1 r1 p
  rw [i.k, i.a] at h
  exact h
end
end DL

set_option maxHeartbeats 4000000
/-! DL23: repr of data, where nothing that is shown is under way. -/
namespace DL
open PySem L2
noncomputable def fRepr : List D → Option D
  | [d] => if PyData.canLay0 d.py = true ∧ d.py.showable = true ∧ d.py.depth ≤ 60 ∧ d.py.shown.length ≤ sizeLine then some (.str d.py.shown) else none
  | _ => none
section
variable {X : Cx} {adr : AdrT} {Wx : WX} {pos : Pos}
abbrev rRepr (K : PySem.W.Frag) : List V → Hp → VK → Prop := fun xs H Q => ∃ x d, xs = [x] ∧ Dp K H x d ∧ d.canLay0 = true ∧ d.showable = true ∧ d.depth ≤ 60 ∧ d.shown.length ≤ sizeLine ∧ Q (.str d.shown) H
theorem call_reprD (hg : X.A.guards = some []) (hu : X.A.units + 65 < cLine) : CallR X (.builtin "repr") (rRepr X.K) := by
  intro pins s σ H xs us Q I rs h
  obtain ⟨x, d, rfl, hd, hl, hs, h60, hz, q⟩ := h
  obtain ⟨u, rfl, r⟩ := vals1 rs
  obtain ⟨as, rd⟩ := Dp.reads I d x u hd r
  have big : ∀ a, u = .ref a → wpAny (model X.prog X.w) X.A (call (.builtin "repr") [u]) (EP X pins σ Q) X.xe s := fun a e => by
    subst e
    exact repr_of_reads' rd hs (PyData.noDict_hsm (PyData.hasDict_of_canLay _ hl)) hg (by omega) (fun _ _ e => e) (fun h' t k hk => ⟨.str _, H, I.kept hk, ⟨t, rfl⟩, q⟩) hz
  cases rd with
  | none => exact P.repr_of_none ⟨.str _, H, I.tok _, ⟨_, rfl⟩, q⟩
  | bool b => exact P.repr_of_bool ⟨.str _, H, I.tok _, ⟨_, rfl⟩, q⟩
  | int i t => exact P.repr_of_int (of_decide_eq_true hs) ⟨.str _, H, I.tok _, ⟨_, rfl⟩, q⟩
  | str x t => exact P.repr_of_str ⟨.str _, H, I.tok _, ⟨_, rfl⟩, q⟩ hz
  | list _ _ _ _ => exact big _ rfl
  | tuple _ _ _ _ => exact big _ rfl
  | dict _ _ _ _ _ => cases hl
theorem cd_repr : CallD X adr (rRepr X.K) fRepr := fun W σ ρ F H Q l vs d i R r e q => by
  match l, e with
  | [x], e =>
    obtain ⟨v, _, rfl, h1, rfl⟩ := r
    simp only [fRepr] at e
    split at e
    · rename_i h
      cases e
      exact ⟨v, x.py, rfl, Rep.dp (X := X) (adr := W.adr) R.sub x v (by rw [← i.k]; exact h1) h.1, h.1, h.2.1, h.2.2.1, h.2.2.2, q _ F H (Same.refl _) R rfl⟩
    · cases e
variable {e : Expr} {es : List Expr} {p : Pos} {ms : M (List D)}
theorem de_bRepr (hg0 : X.A.guards = some []) (hu : X.A.units + 65 < cLine) (hm : X.mg "repr" = none) (ha : DA X adr Wx (e :: es) ms) (hg : Gl X "repr" := by rfl) (he : starEach (e :: es) X.env = (false, eval e X.env) :: starEach es X.env := by rfl) (hpl : (backTo pos (starEach es X.env)).any (·.1) = false := by rfl) : DE X adr Wx (.Call (.Name "repr" p) (e :: es) [] pos) (eB fRepr ms) :=
  de_callB (call_reprD hg0 hu) cd_repr hg hm (by decide +kernel) ha (by decide) (by decide) he hpl
end
end DL

set_option maxHeartbeats 4000000
/-! DL24: a text times a number. -/
namespace DL
open PySem L2
def repS (a : Str) (k : Nat) : Str := ⟨(List.replicate k a.cps).foldl (· ++ ·) #[]⟩
def fMulS : D → D → Option D
  | .str a, .int k => if 2 ≤ k ∧ k < 2 ^ 63 ∧ 1 ≤ a.length ∧ a.length * k.toNat ≤ LINE then some (.str (repS a k.toNat)) else none
  | _, _ => none
abbrev rRepS : R2 := fun x y H Q => ∃ a k, x = .str a ∧ y = .int k ∧ 2 ≤ k ∧ k < 2 ^ 63 ∧ 1 ≤ a.length ∧ a.length * k.toNat ≤ sizeLine ∧ Q (.str (repS a k.toNat)) H
section
variable {X : Cx} {adr : AdrT} {Wx : WX} {pos : Pos} {a b : Expr} {ma mb : M D}
theorem foldl_size (x : Array Nat) : ∀ (n : Nat) (acc : Array Nat), ((List.replicate n x).foldl (· ++ ·) acc).size = acc.size + x.size * n
  | 0, acc => by simp
  | n + 1, acc => by
    rw [List.replicate_succ, List.foldl_cons, foldl_size x n (acc ++ x), Array.size_append]
    rw [Nat.mul_succ]; omega
theorem repS_len (a : Str) (k : Nat) : (repS a k).length = a.length * k := by
  show ((List.replicate k a.cps).foldl (· ++ ·) #[]).size = _
  rw [foldl_size]
  simp [Str.length]
theorem op_repS : OpR X (binaryOp .Mult) rRepS := by
  intro pins s σ H x y v u Q I rx ry h
  obtain ⟨a, k, rfl, rfl, h1, h2, h3, hz, q⟩ := h
  obtain ⟨t, rfl⟩ := rx
  obtain ⟨t', rfl⟩ := ry
  have hk : ((a.length : Int) * k) ≤ 16777216 := by
    have e : ((k.toNat : Nat) : Int) = k := Int.toNat_of_nonneg (by omega)
    have hz' : a.length * k.toNat ≤ 16777216 := by rw [sizeLine_eq] at hz; exact hz
    calc ((a.length : Int) * k) = (a.length : Int) * ((k.toNat : Nat) : Int) := by rw [e]
      _ = ((a.length * k.toNat : Nat) : Int) := (Int.natCast_mul _ _).symm
      _ ≤ ((16777216 : Nat) : Int) := Int.ofNat_le.mpr hz'
  refine PySem.P.mul_str (by
    have a1 : ¬ k < -(2 ^ 63 : Int) := by omega
    have a2 : ¬ k ≥ (2 ^ 63 : Int) := by omega
    rw [decide_eq_false a1, decide_eq_false a2]; rfl) (fun _ _ => ?_) (fun _ _ => ?_) ?_
  · have hp : 0 < k := by omega
    have : (a.length : Int) ≤ (2 ^ 63 - 1) / k := by
      refine (Int.le_ediv_iff_mul_le hp).mpr ?_
      omega
    omega
  · show decide (_ > sizeLine) = false
    exact decide_eq_false (by omega)
  · rw [if_neg (by omega), if_neg (by
      have e1 : (k == 1) = false := by simp; omega
      have e2 : (a.length == 0) = false := by simp; omega
      rw [e1, e2]; exact Bool.false_ne_true)]
    exact ⟨by rw [show (Str.mk _).length = (repS a k.toNat).length from rfl, repS_len]; exact hz, ⟨.str _, H, I.tok _, ⟨_, rfl⟩, q⟩⟩
theorem op2_repS : Op2 X adr rRepS fMulS := fun W σ ρ F H Q x y u v d i R rx ry e q => by
  cases x <;> cases y <;> simp only [fMulS, reduceCtorEq] at e
  split at e
  · rename_i c
    cases e
    exact ⟨_, _, rx, ry, c.1, c.2.1, c.2.2.1, by rw [← line_eq]; exact c.2.2.2, q _ F H (Same.refl _) R rfl⟩
  · cases e
theorem de_mulS (ha : DE X adr Wx a ma) (hb : DE X adr Wx b mb) : DE X adr Wx (.BinOp a .Mult b pos) (e2 fMulS ma mb) := de_op op_repS op2_repS ha hb
end
end DL

set_option maxHeartbeats 4000000
/-! EX1: an own exception whose __init__(self, value) says super().__init__(value); self.value = value, the classes below it. -/
namespace DL
open PySem L2 NdefX PyProof.Rows PySem.Calls
/-- what the written part says of an exception's class C, below the class D that has the __init__ -/
structure SupC (K : PySem.W.Frag) (D C : Addr) : Prop where
  oex : OexC K C
  sup : PySem.W.ks_superIn K C D "__init__" = some (some (.builtin "ValueError.__init__"))
  sub : PySem.W.mroIn K C (.ref D) = some true
  subV : PySem.W.subIn K (.ref C) (.type "ValueError") = some true
  noV : PySem.W.findIn K (.ref C) "value" = some none
/-- .. of the def -/
structure SupF (P : Program) (K : PySem.W.Frag) (mg : Str → Option Value) (D f cc cda : Addr) (fd : FuncData) (st : Stmt) : Prop where
  lk : ∃ oc od osl, K.lookup f = some ⟨oc, od, .func fd, osl⟩
  pars : fd.params = defArgs st
  body : fd.body = .stmts (defBody st)
  scope : fd.scope = defScope st
  globals : fd.globals = mainGlobals
  closure : fd.closure = [(("__class__" : Str), cc)]
  blt : fd.builtins = builtinsNs
  code : fd.code = .ref cda
  cd : PySem.W.codeIn K fd.code fd.qualname = true
  file : ∃ a b vs sl t, K.lookup cda = some ⟨a, b, .fields vs, sl⟩ ∧ vs[2]? = some (.str P.main.file t)
  cell : ∃ a b sl, K.lookup cc = some ⟨a, b, .cell (some (.ref D)), sl⟩
  cls : ∃ cd, PySem.W.clsIn K D = some cd
  opq : PySem.W.nsIn K cStatics "thirdparty.any" = some none
  nsup : mg "super" = none
  top : (P.main.scope.names.lookup ("super" : Str)).isSome = false
def spEI (K : PySem.W.Frag) (D : Addr) : Sp := fun vs H Q _ => ∃ (a C : Addr) (y : V), vs = [.ref a, y] ∧ SupC K D C ∧ H a = some (exo a C none) ∧ ∀ dx, H dx = none → dx ≠ a → Q .non (upd (upd H dx (exd dx [("value", y)])) a (exo a C (some dx)))
/-- the def's text -/
structure SupT (st : Stmt) : Prop where
  S : NScope ["self", "value", "__class__"] ["self", "value"] ["__class__"] (defScope st)
  sup : (defScope st).names.lookup ("super" : Str) = some .globalImplicit
  pars : ((defArgs st).posonlyargs ++ (defArgs st).args).head?.map (·.arg) = some "self"
  body : ∃ (p0 p1 p2 p3 p4 p5 p6 p7 p8 p9 : Pos), defBody st = [.Expr (.Call (.Attribute (.Call (.Name "super" p0) [] [] p1) "__init__" p2) [.Name "value" p3] [] p4) p5, .Assign [.Attribute (.Name "self" p6) "value" p7] (.Name "value" p8) p9] ∧
    ∀ (q : Str) (L f cda cc : Addr), ∃ pl : Sem Bool, eval (.Call (.Attribute (.Call (.Name "super" p0) [] [] p1) "__init__" p2) [.Name "value" p3] [] p4) (PySem.W.envX q (defScope st) L f (.ref cda) [(("__class__" : Str), cc)]) = (do
      let ov ← attributeBase (.Call (.Name "super" p0) [] [] p1) "__init__" (PySem.W.envX q (defScope st) L f (.ref cda) [(("__class__" : Str), cc)]) (eval (.Call (.Name "super" p0) [] [] p1) (PySem.W.envX q (defScope st) L f (.ref cda) [(("__class__" : Str), cc)]))
      standAt p2.atName
      let (f', first) ← holding [ov] (getMethod ov "__init__" pl)
      callWith p4 f' first (backTo p4 (starEach [.Name "value" p3] (PySem.W.envX q (defScope st) L f (.ref cda) [(("__class__" : Str), cc)]))) [])
end DL
namespace DL
open PySem L2 NdefX PyProof.Rows PySem.Calls
theorem exc_init_ok {CX : CXT} {P : Program} {w : World} {K : PySem.W.Frag} {mg : Str → Option Value} {base : Heap} {D f cc cda : Addr} {fd : FuncData} {st : Stmt} {k : Nat} (F : SupF P K mg D f cc cda fd st) (T : SupT st) : FnOk P w K mg base CX (k + 1) f fd ["self", "value"] (spEI K D) := by
  refine ⟨fun vs H Q E h => ?_, fun A outer s H args us vs Q E hr e0 hb r hsp => ?_⟩
  · obtain ⟨a, C, y, rfl, _⟩ := h; rfl
  · obtain ⟨a, C, y, rfl, SC, ha, hq⟩ := hsp
    obtain ⟨oc, od, osl, lk⟩ := F.lk
    obtain ⟨n1, n2, n3, n4, n5, n6, n7, n8, n9, n10, n11, n12, n13, n14, n15⟩ := fd
    obtain ⟨_, e3, e4, e5, e6, e7, e15, e13, hcd, ⟨ca, cb, cvs, csl, ct, hcode, hfile⟩, ⟨la, lb, lsl, hcell⟩, ⟨cdD, hD⟩, opq, nsup, top⟩ := F
    dsimp only at e3 e4 e5 e6 e7 e15 e13 hcd
    subst e3 e4 e5 e6 e7 e15 e13
    have KX : K.In s.heap := e0.mod.kin.keeps fun b o e => (e0.bs b o e).1
    have lim : s.heap.NoLimit := e0.mod.nolimit.keeps fun b o e => (e0.bs b o e).1
    have inBase : ∀ {b : Addr} {o : Obj}, K.lookup b = some o → H b = none := fun {b o} e => (e0.bs b o (e0.mod.kin _ _ e)).2
    have CA : CellsAt [(("__class__" : Str), cc)] ["__class__"] [none] s.heap H := by
      have lo : ∀ (y : Str) (c : Addr), [(("__class__" : Str), cc)].lookup y = some c → y = "__class__" ∧ c = cc := fun y c e => by
        rw [List.lookup_cons] at e
        cases q : y == ("__class__" : Str) with
        | true =>
          rw [q] at e
          exact ⟨eq_of_beq q, (Option.some.inj e).symm⟩
        | false => rw [q] at e; cases e
      refine ⟨rfl, fun y c e => ?_, fun x y c h1 h2 => (lo x c h1).1.trans (lo y c h2).1.symm, fun i y e => ?_⟩
      · obtain ⟨_, rfl⟩ := lo y c e
        exact ⟨inBase hcell, _, _, KX _ _ hcell, rfl⟩
      · cases i with
        | zero => cases e; exact ⟨cc, rfl, fun v h => by simp at h⟩
        | succ i => cases e
    have hl := Paired.length r
    match us, hl with
    | [u0, u1], _ =>
    obtain ⟨r0, r1⟩ : RelV (.ref a) u0 ∧ RelV y u1 := by
      cases r with
      | cons r0 r => cases r with
        | cons r1 r => exact ⟨r0, r1⟩
    obtain rfl : u0 = Value.ref a := r0
    let FN : NF := ⟨n1, n2, defArgs st, defBody st, defScope st, [(("__class__" : Str), cc)], cda⟩
    refine PySem.ks_codeAny_call_defAt hr.depth (KX _ _ lk) rfl lim (PySem.W.codeRec_of KX hcd) rfl hb T.S.nocell (fun x hx => ?_) (fun h₀ hns kp => ?_) T.S.co T.S.gen T.S.kind
    · exact T.S.par x.1 (List.of_mem_zip hx).1
    · have I : Inv (ncx CX P w K mg base ["self", "value", "__class__"] FN f A outer s H E) [] (startF ["self", "value", "__class__"] [.ref a, y] [none]) H { s with heap := h₀, toks := s.toks + (["self", "value"].zip [Value.ref a, u1]).length } := inv_startN T.S hr.hd e0 rfl r CA hns kp
      obtain ⟨p0, p1, p2, p3, p4, p5, p6, p7, p8, p9, hbd, hev⟩ := T.body
      obtain ⟨pl, he⟩ := hev n2 s.heap.objs.size f cda cc
      obtain ⟨ar, har, hself⟩ : ∃ ar, ((defArgs st).posonlyargs ++ (defArgs st).args).head? = some ar ∧ ar.arg = "self" := by
        have z := T.pars
        cases q : ((defArgs st).posonlyargs ++ (defArgs st).args).head? with
        | none => rw [q] at z; cases z
        | some ar => rw [q] at z; exact ⟨ar, rfl, Option.some.inj z⟩
      obtain ⟨mb, b1, b2⟩ := e0.mod.blt
      have kb : ∀ b o, base.get? b = some o → h₀.get? b = some o := fun b o e => kp b o (e0.bs b o e).1
      obtain ⟨t1, hxa⟩ := exo_at I.hok ha
      obtain ⟨oD, hD1, hD2⟩ : ∃ oD, h₀.get? D = some oD ∧ oD.data = .cls cdD := by
        unfold PySem.W.clsIn at hD
        split at hD
        · rename_i c d cd' sl ho
          cases hD
          exact ⟨_, kp _ _ (KX _ _ ho), rfl⟩
        · cases hD
      rw [hbd]
      refine PySem.ks_wpAt_execs_cons (PySem.ks_wpAt_Expr_any (PySem.ks_wpAt_MethodCall (PySem.ks_wpAt_super_base (ar := ar) T.sup (T.S.frk _ (by simp)) (by decide) rfl (kp _ _ (KX _ _ lk)) rfl har rfl (kp _ _ (KX _ _ hcode)) rfl hfile (by simp) top ?_) he) I.quiet)
      refine PySem.W.ks_loadName_global T.S.kind T.sup (Calls.loadGlobal_builtin (e0.mod.glob.keeps kb) nsup (b1.keeps kb) ((b2 "super" (by decide)).trans (by kernel_rfl)) ⟨rfl, ?_⟩)
      refine wpAny_loadName_free T.S.kind (T.S.frk "__class__" (by simp)) rfl ⟨_, kp _ _ (KX _ _ hcell), rfl⟩ ?_
      rw [hself]
      refine wpAny_loadName_local (v := .ref a) T.S.kind (T.S.par "self" (by simp)) hns (by rfl) ?_
      refine PySem.ks_wpAny_isType_cls hD1 hD2 ⟨rfl, ?_⟩
      have K0 : K.In h₀ := KX.keeps kp
      refine PySem.ks_wpAny_call_super hD1 hD2 hxa rfl (fun c z => by cases z) (PySem.W.looks_mroIn K0 SC.sub) (fun h1 e1 k1 => ?_)
      have K1 : K.In h1 := K0.keeps k1
      have I1 := I.kept (h' := h1) (t' := s.toks + (["self", "value"].zip [Value.ref a, u1]).length) k1
      obtain ⟨nm, q, N, bs, bm, sn, sub, ab, col, dd, k0, k1', k2, k3, k5, hC, hbm⟩ := SC.oex.cls
      have hcl : PySem.W.clsIn K C = some { name := nm, bases := bs, mro := .ref C :: bm, ns := N, qualname := q, hasDict := true, slotNames := sn, subclasses := sub, abstract := ab, collection := col, hasDel := false } := by unfold PySem.W.clsIn; rw [hC] <;> rfl
      have hsup : PySem.W.alongIn K "__init__" (((Value.ref C :: bm).dropWhile (· != .ref D)).drop 1) = some (some (.builtin "ValueError.__init__")) := by
        have z := SC.sup
        unfold PySem.W.ks_superIn at z
        rw [hcl] at z
        exact z
      have hx1 := k1 _ _ hxa
      have xC : a ≠ C := fun z => by
        rw [z, K1 _ _ hC] at hx1
        cases hx1
      have I2 : PySem.W.InstAt h1 a { cls := .ref C, dict := none, data := .fields #[.ref t1, .none, .none, .none, .bool false, .none] } C none := ⟨hx1, rfl, rfl, trivial⟩
      have hinst : PySem.W.Looks (model P w) h1 (isInstance (.ref a) (.type "ValueError")) true := I2.type.andThen (PySem.W.looks_subIn K1 SC.subV)
      refine PySem.W.kxs_getMethod PySem.W.kxs_ValueError e1 (PySem.W.looks_opaque K1 opq) (l₀ := Value.ref C :: bm) (fun A Q E s' kk qq => wpAny_bind ((PySem.W.looks_clsIn K1 hcl) A _ E s' kk (wpAny_pure qq))) rfl K1 hsup hinst xC (by decide) ?_
      have kp2 : ∀ b u, h1.get? b = some u → (h1.push (PySem.W.kxs_mw "ValueError.__init__" a)).get? b = some u := fun b u e => Heap.get?_push_of_some _ e
      have I3 := I1.kept (h' := h1.push (PySem.W.kxs_mw "ValueError.__init__" a)) (t' := s.toks + (["self", "value"].zip [Value.ref a, u1]).length + 1) kp2
      have hu : (h1.push (PySem.W.kxs_mw "ValueError.__init__" a)).get? h1.objs.size = some (PySem.W.kxs_mw "ValueError.__init__" a) := Heap.get?_push_at rfl rfl
      have est : starEach [.Name "value" p3] (PySem.W.envX n2 (defScope st) s.heap.objs.size f (.ref cda) [(("__class__" : Str), cc)]) = (false, eval (.Name "value" p3) (PySem.W.envX n2 (defScope st) s.heap.objs.size f (.ref cda) [(("__class__" : Str), cc)])) :: starEach [] (PySem.W.envX n2 (defScope st) s.heap.objs.size f (.ref cda) [(("__class__" : Str), cc)]) := by rfl
      have PV : PE (ncx CX P w K mg base ["self", "value", "__class__"] FN f A outer s H E) (.Name "value" p3) (tVar 1) := pe_var (by rfl) (.inl (T.S.par "value" (by simp))) (by decide) (by decide)
      refine PySem.W.kxs_callWith (i := "ValueError.__init__") (x := a) (by rfl) ?_
      have I3p := I3.pins_of (pins' := [(h1.objs.size, PySem.W.kxs_mw "ValueError.__init__" a)]) fun p hp => by
        rw [List.mem_singleton] at hp
        subst hp
        exact ⟨hu, I1.hok.fresh (Nat.le_refl _), (Nat.ne_of_lt I1.lt).symm, I1.nofs (Nat.le_refl _), fun v z => by cases z⟩
      refine evalArgs_plain (thn ((pa_cons PV pa_nil).run p4 [(h1.objs.size, PySem.W.kxs_mw "ValueError.__init__" a)] _ _ H (fun vs H1 => vs = [y] ∧ H1 = H) I3p ⟨y, rfl, rfl, rfl⟩) fun us' s4 ⟨vs', H4, I4, r4, q4, q5⟩ => ?_)
      subst q4 q5
      have hu4 := (I4.pin (h1.objs.size, PySem.W.kxs_mw "ValueError.__init__" a) (by simp)).1
      refine ⟨hu4, ?_⟩
      obtain ⟨t4, hx4⟩ := exo_at I4.hok ha
      have hl4 := Paired.length r4
      match us', hl4 with
      | [u4], _ =>
      obtain ⟨h4, g4, d4, k4, os4⟩ := s4
      refine wpAny_call (codeAny_of_tree ?_)
      show wpAny _ _ (callAny (.ref h1.objs.size) ⟨[u4], []⟩) _ _ _
      simp only [callAny]
      refine wpAny_bind (wpAny_load hu4 ?_)
      simp only [PySem.W.kxs_mw, show (Value.type "method-wrapper" == Value.type "method" || Value.type "method-wrapper" == Value.type "builtin_function_or_method" || Value.type "method-wrapper" == Value.type "method-wrapper") = true by decide, if_true]
      refine PySem.W.KFB.if_so (by decide) ?_
      refine wpAny_bind (PySem.W.check_bound_init F.excBase_ValueError.toExcCallFacts (I4.kIn _ _ hC) hx4 rfl ?_)
      refine wpAny_bind (wpAny_pure (wpAny_pure ?_))
      refine ⟨plainId_quiet F.excBase_ValueError.init.plain _, codeAny_builtin F.excBase_ValueError.initEntry ?_⟩
      refine PySem.W.exc_init_tree (cls := .ref C) (t0 := t4) (dv := none) (c2 := .none) (c3 := .none) (b4 := .bool false) hx4 (by simp; rw [sizeLine_eq]; decide) fun h5 kh hx5 _ => ?_
      have I4' := (I4.pins_of (pins' := []) fun p hp => by cases hp).write (t' := k4) (x := a) (e := a) (o := exo a C none) (h' := h5) (by rw [ha]; exact True.intro) (.inl rfl) kh ⟨_, hx5⟩ (exo_ok hx5)
      have eu : upd H4 a (exo a C none) = H4 := by
        funext b
        by_cases hb : b = a
        · rw [hb, upd_same, ha]
        · rw [upd_ne hb]
      rw [eu] at I4'
      have PS1 : PE (ncx CX P w K mg base ["self", "value", "__class__"] FN f A outer s H4 E) (.Name "value" p8) (tVar 1) := pe_var (by rfl) (.inl (T.S.par "value" (by simp))) (by decide) (by decide)
      have PS0 : PE (ncx CX P w K mg base ["self", "value", "__class__"] FN f A outer s H4 E) (.Name "self" p6) (tVar 0) := pe_var (by rfl) (.inl (T.S.par "self" (by simp))) (by decide) (by decide)
      refine wpAt_of_wpAny ?_
      have run := (pss_one (ps_ost (p' := p7) (pos := p9) (f := "value") PS0 PS1)).run [] _ _ H4 { nx := fun _ H' => Q .non H', rt := Q } I4' ⟨y, rfl, .ref a, rfl, a, C, rfl, SC.oex, SC.noV, .inl ⟨ha, fun dx n1 n2 => hq dx n1 n2⟩⟩
      refine wpAny_mono run (fun fl s' hs => ?_) fun e s' hs => hs
      have fin : ∀ {σ' : L2.St} {H' : Hp} {v : V} {u : Value}, Inv (ncx CX P w K mg base ["self", "value", "__class__"] FN f A outer s H4 E) [] σ' H' s' → RelV v u → Q v H' → CE outer P w H4 s Q u s' :=
        fun {σ' H' v u} J rv q => ⟨v, H', J.os, J.bare, J.base, J.hok, rv, q⟩
      cases fl with
      | ret u =>
        obtain ⟨v, σ', H', J, rv, q⟩ := hs
        exact fin J rv q
      | next =>
        obtain ⟨σ', H', J, q⟩ := hs
        exact fin (v := V.non) (u := Value.none) J rfl q
      | brk =>
        obtain ⟨_, _, _, q⟩ := hs
        exact False.elim q
      | cont =>
        obtain ⟨_, _, _, q⟩ := hs
        exact False.elim q
end DL

set_option maxHeartbeats 4000000
/-! EX1H: the same __init__ while an exception is handled; made where nothing is, the context None. -/
namespace DL
open PySem L2 NdefX PyProof.Rows PySem.Calls L2H
theorem exc_init_okH {CX : CXT} {P : Program} {w : World} {K : PySem.W.Frag} {mg : Str → Option Value} {base : Heap} {D f cc cda : Addr} {fd : FuncData} {st : Stmt} {k : Nat} (F : SupF P K mg D f cc cda fd st) (T : SupT st) : FnH P w K mg base CX (k + 1) f fd ["self", "value"] (spEI K D) := by
  refine ⟨fun vs H Q E h => ?_, fun A outer s H args us vs Q E hp hr hot hpin e0 hb r hsp => ?_⟩
  · obtain ⟨a, C, y, rfl, _⟩ := h; rfl
  · obtain ⟨a, C, y, rfl, SC, ha, hq⟩ := hsp
    obtain ⟨oc, od, osl, lk⟩ := F.lk
    obtain ⟨n1, n2, n3, n4, n5, n6, n7, n8, n9, n10, n11, n12, n13, n14, n15⟩ := fd
    obtain ⟨_, e3, e4, e5, e6, e7, e15, e13, hcd, ⟨ca, cb, cvs, csl, ct, hcode, hfile⟩, ⟨la, lb, lsl, hcell⟩, ⟨cdD, hD⟩, opq, nsup, top⟩ := F
    dsimp only at e3 e4 e5 e6 e7 e15 e13 hcd
    subst e3 e4 e5 e6 e7 e15 e13
    have KX : K.In s.heap := e0.mod.kin.keeps fun b o e => (e0.bs b o e).1
    have lim : s.heap.NoLimit := e0.mod.nolimit.keeps fun b o e => (e0.bs b o e).1
    have inBase : ∀ {b : Addr} {o : Obj}, K.lookup b = some o → H b = none := fun {b o} e => (e0.bs b o (e0.mod.kin _ _ e)).2
    have CA : CellsAt [(("__class__" : Str), cc)] ["__class__"] [none] s.heap H := by
      have lo : ∀ (y : Str) (c : Addr), [(("__class__" : Str), cc)].lookup y = some c → y = "__class__" ∧ c = cc := fun y c e => by
        rw [List.lookup_cons] at e
        cases q : y == ("__class__" : Str) with
        | true =>
          rw [q] at e
          exact ⟨eq_of_beq q, (Option.some.inj e).symm⟩
        | false => rw [q] at e; cases e
      refine ⟨rfl, fun y c e => ?_, fun x y c h1 h2 => (lo x c h1).1.trans (lo y c h2).1.symm, fun i y e => ?_⟩
      · obtain ⟨_, rfl⟩ := lo y c e
        exact ⟨inBase hcell, _, _, KX _ _ hcell, rfl⟩
      · cases i with
        | zero => cases e; exact ⟨cc, rfl, fun v h => by simp at h⟩
        | succ i => cases e
    have hl := Paired.length r
    match us, hl with
    | [u0, u1], _ =>
    obtain ⟨r0, r1⟩ : RelV (.ref a) u0 ∧ RelV y u1 := by
      cases r with
      | cons r0 r => cases r with
        | cons r1 r => exact ⟨r0, r1⟩
    obtain rfl : u0 = Value.ref a := r0
    let FN : NF := ⟨n1, n2, defArgs st, defBody st, defScope st, [(("__class__" : Str), cc)], cda⟩
    refine PySem.ks_codeAny_call_defAt (L2H.RoomH.depth hr) (KX _ _ lk) rfl lim (PySem.W.codeRec_of KX hcd) rfl hb T.S.nocell (fun x hx => ?_) (fun h₀ hns kp => ?_) T.S.co T.S.gen T.S.kind
    · exact T.S.par x.1 (List.of_mem_zip hx).1
    · have I : Inv (ncxH CX P w K mg base ["self", "value", "__class__"] FN f A outer s H E hp) [] (startF ["self", "value", "__class__"] [.ref a, y] [none]) H { s with heap := h₀, toks := s.toks + (["self", "value"].zip [Value.ref a, u1]).length } := inv_startNH T.S hpin e0 rfl r CA hns kp
      obtain ⟨p0, p1, p2, p3, p4, p5, p6, p7, p8, p9, hbd, hev⟩ := T.body
      obtain ⟨pl, he⟩ := hev n2 s.heap.objs.size f cda cc
      obtain ⟨ar, har, hself⟩ : ∃ ar, ((defArgs st).posonlyargs ++ (defArgs st).args).head? = some ar ∧ ar.arg = "self" := by
        have z := T.pars
        cases q : ((defArgs st).posonlyargs ++ (defArgs st).args).head? with
        | none => rw [q] at z; cases z
        | some ar => rw [q] at z; exact ⟨ar, rfl, Option.some.inj z⟩
      obtain ⟨mb, b1, b2⟩ := e0.mod.blt
      have kb : ∀ b o, base.get? b = some o → h₀.get? b = some o := fun b o e => kp b o (e0.bs b o e).1
      obtain ⟨t1, hxa⟩ := exo_at I.hok ha
      obtain ⟨oD, hD1, hD2⟩ : ∃ oD, h₀.get? D = some oD ∧ oD.data = .cls cdD := by
        unfold PySem.W.clsIn at hD
        split at hD
        · rename_i c d cd' sl ho
          cases hD
          exact ⟨_, kp _ _ (KX _ _ ho), rfl⟩
        · cases hD
      rw [hbd]
      refine PySem.ks_wpAt_execs_cons (PySem.ks_wpAt_Expr_any (PySem.ks_wpAt_MethodCall (PySem.ks_wpAt_super_base (ar := ar) T.sup (T.S.frk _ (by simp)) (by decide) rfl (kp _ _ (KX _ _ lk)) rfl har rfl (kp _ _ (KX _ _ hcode)) rfl hfile (by simp) top ?_) he) I.quiet)
      refine PySem.W.ks_loadName_global T.S.kind T.sup (Calls.loadGlobal_builtin (e0.mod.glob.keeps kb) nsup (b1.keeps kb) ((b2 "super" (by decide)).trans (by kernel_rfl)) ⟨rfl, ?_⟩)
      refine wpAny_loadName_free T.S.kind (T.S.frk "__class__" (by simp)) rfl ⟨_, kp _ _ (KX _ _ hcell), rfl⟩ ?_
      rw [hself]
      refine wpAny_loadName_local (v := .ref a) T.S.kind (T.S.par "self" (by simp)) hns (by rfl) ?_
      refine PySem.ks_wpAny_isType_cls hD1 hD2 ⟨rfl, ?_⟩
      have K0 : K.In h₀ := KX.keeps kp
      refine PySem.ks_wpAny_call_super hD1 hD2 hxa rfl (fun c z => by cases z) (PySem.W.looks_mroIn K0 SC.sub) (fun h1 e1 k1 => ?_)
      have K1 : K.In h1 := K0.keeps k1
      have I1 := I.kept (h' := h1) (t' := s.toks + (["self", "value"].zip [Value.ref a, u1]).length) k1
      obtain ⟨nm, q, N, bs, bm, sn, sub, ab, col, dd, k0, k1', k2, k3, k5, hC, hbm⟩ := SC.oex.cls
      have hcl : PySem.W.clsIn K C = some { name := nm, bases := bs, mro := .ref C :: bm, ns := N, qualname := q, hasDict := true, slotNames := sn, subclasses := sub, abstract := ab, collection := col, hasDel := false } := by unfold PySem.W.clsIn; rw [hC] <;> rfl
      have hsup : PySem.W.alongIn K "__init__" (((Value.ref C :: bm).dropWhile (· != .ref D)).drop 1) = some (some (.builtin "ValueError.__init__")) := by
        have z := SC.sup
        unfold PySem.W.ks_superIn at z
        rw [hcl] at z
        exact z
      have hx1 := k1 _ _ hxa
      have xC : a ≠ C := fun z => by
        rw [z, K1 _ _ hC] at hx1
        cases hx1
      have I2 : PySem.W.InstAt h1 a { cls := .ref C, dict := none, data := .fields #[.ref t1, .none, .none, .none, .bool false, .none] } C none := ⟨hx1, rfl, rfl, trivial⟩
      have hinst : PySem.W.Looks (model P w) h1 (isInstance (.ref a) (.type "ValueError")) true := I2.type.andThen (PySem.W.looks_subIn K1 SC.subV)
      refine PySem.W.kxs_getMethod PySem.W.kxs_ValueError e1 (PySem.W.looks_opaque K1 opq) (l₀ := Value.ref C :: bm) (fun A Q E s' kk qq => wpAny_bind ((PySem.W.looks_clsIn K1 hcl) A _ E s' kk (wpAny_pure qq))) rfl K1 hsup hinst xC (by decide) ?_
      have kp2 : ∀ b u, h1.get? b = some u → (h1.push (PySem.W.kxs_mw "ValueError.__init__" a)).get? b = some u := fun b u e => Heap.get?_push_of_some _ e
      have I3 := I1.kept (h' := h1.push (PySem.W.kxs_mw "ValueError.__init__" a)) (t' := s.toks + (["self", "value"].zip [Value.ref a, u1]).length + 1) kp2
      have hu : (h1.push (PySem.W.kxs_mw "ValueError.__init__" a)).get? h1.objs.size = some (PySem.W.kxs_mw "ValueError.__init__" a) := Heap.get?_push_at rfl rfl
      have est : starEach [.Name "value" p3] (PySem.W.envX n2 (defScope st) s.heap.objs.size f (.ref cda) [(("__class__" : Str), cc)]) = (false, eval (.Name "value" p3) (PySem.W.envX n2 (defScope st) s.heap.objs.size f (.ref cda) [(("__class__" : Str), cc)])) :: starEach [] (PySem.W.envX n2 (defScope st) s.heap.objs.size f (.ref cda) [(("__class__" : Str), cc)]) := by rfl
      have PV : PE (ncxH CX P w K mg base ["self", "value", "__class__"] FN f A outer s H E hp) (.Name "value" p3) (tVar 1) := pe_var (by rfl) (.inl (T.S.par "value" (by simp))) (by decide) (by decide)
      refine PySem.W.kxs_callWith (i := "ValueError.__init__") (x := a) (by rfl) ?_
      have I3p := I3.pins_of (pins' := [(h1.objs.size, PySem.W.kxs_mw "ValueError.__init__" a)]) fun p hp => by
        rw [List.mem_singleton] at hp
        subst hp
        exact ⟨hu, I1.hok.fresh (Nat.le_refl _), (Nat.ne_of_lt I1.lt).symm, I1.nofs (Nat.le_refl _), fun v z => by cases z⟩
      refine evalArgs_plain (thn ((pa_cons PV pa_nil).run p4 [(h1.objs.size, PySem.W.kxs_mw "ValueError.__init__" a)] _ _ H (fun vs H1 => vs = [y] ∧ H1 = H) I3p ⟨y, rfl, rfl, rfl⟩) fun us' s4 ⟨vs', H4, I4, r4, q4, q5⟩ => ?_)
      subst q4 q5
      have hu4 := (I4.pin (h1.objs.size, PySem.W.kxs_mw "ValueError.__init__" a) (by simp)).1
      refine ⟨hu4, ?_⟩
      obtain ⟨t4, hx4⟩ := exo_at I4.hok ha
      have hl4 := Paired.length r4
      match us', hl4 with
      | [u4], _ =>
      obtain ⟨h4, g4, d4, k4, os4⟩ := s4
      refine wpAny_call (codeAny_of_tree ?_)
      show wpAny _ _ (callAny (.ref h1.objs.size) ⟨[u4], []⟩) _ _ _
      simp only [callAny]
      refine wpAny_bind (wpAny_load hu4 ?_)
      simp only [PySem.W.kxs_mw, show (Value.type "method-wrapper" == Value.type "method" || Value.type "method-wrapper" == Value.type "builtin_function_or_method" || Value.type "method-wrapper" == Value.type "method-wrapper") = true by decide, if_true]
      refine PySem.W.KFB.if_so (by decide) ?_
      refine wpAny_bind (PySem.W.check_bound_init F.excBase_ValueError.toExcCallFacts (I4.kIn _ _ hC) hx4 rfl ?_)
      refine wpAny_bind (wpAny_pure (wpAny_pure ?_))
      refine ⟨plainId_quiet F.excBase_ValueError.init.plain _, codeAny_builtin F.excBase_ValueError.initEntry ?_⟩
      refine PySem.W.exc_init_tree (cls := .ref C) (t0 := t4) (dv := none) (c2 := .none) (c3 := .none) (b4 := .bool false) hx4 (by simp; rw [sizeLine_eq]; decide) fun h5 kh hx5 _ => ?_
      have I4' := (I4.pins_of (pins' := []) fun p hp => by cases hp).write (t' := k4) (x := a) (e := a) (o := exo a C none) (h' := h5) (by rw [ha]; exact True.intro) (.inl rfl) kh ⟨_, hx5⟩ (exo_ok hx5)
      have eu : upd H4 a (exo a C none) = H4 := by
        funext b
        by_cases hb : b = a
        · rw [hb, upd_same, ha]
        · rw [upd_ne hb]
      rw [eu] at I4'
      have PS1 : PE (ncxH CX P w K mg base ["self", "value", "__class__"] FN f A outer s H4 E hp) (.Name "value" p8) (tVar 1) := pe_var (by rfl) (.inl (T.S.par "value" (by simp))) (by decide) (by decide)
      have PS0 : PE (ncxH CX P w K mg base ["self", "value", "__class__"] FN f A outer s H4 E hp) (.Name "self" p6) (tVar 0) := pe_var (by rfl) (.inl (T.S.par "self" (by simp))) (by decide) (by decide)
      refine wpAt_of_wpAny ?_
      have run := (pss_one (ps_ost (p' := p7) (pos := p9) (f := "value") PS0 PS1)).run [] _ _ H4 { nx := fun _ H' => Q .non H', rt := Q } I4' ⟨y, rfl, .ref a, rfl, a, C, rfl, SC.oex, SC.noV, .inl ⟨ha, fun dx n1 n2 => hq dx n1 n2⟩⟩
      refine wpAny_mono run (fun fl s' hs => ?_) fun e s' hs => hs
      have fin : ∀ {σ' : L2.St} {H' : Hp} {v : V} {u : Value}, Inv (ncxH CX P w K mg base ["self", "value", "__class__"] FN f A outer s H4 E hp) [] σ' H' s' → RelV v u → Q v H' → CE outer P w H4 s Q u s' :=
        fun {σ' H' v u} J rv q => ⟨v, H', J.os, J.bare, J.base, J.hok, rv, q⟩
      cases fl with
      | ret u =>
        obtain ⟨v, σ', H', J, rv, q⟩ := hs
        exact fin J rv q
      | next =>
        obtain ⟨σ', H', J, q⟩ := hs
        exact fin (v := V.non) (u := Value.none) J rfl q
      | brk =>
        obtain ⟨_, _, _, q⟩ := hs
        exact False.elim q
      | cont =>
        obtain ⟨_, _, _, q⟩ := hs
        exact False.elim q
theorem pmk_oexN {X : Cx} {pos p : Pos} {e : Expr} {es : List Expr} {ta : TA} {CX : CXT} {x : Str} {C fI : Addr} {k : Nat} {fd : FuncData} {ps : List Str} {sp : Sp} {ds : List Value} {dvs : List V} (T : OexC X.K C) (iC : PySem.W.findIn X.K (.ref C) "__init__" = some (some (.ref fI))) (tI : PySem.W.typeIn X.K (.ref fI) = some (.type "function"))
    (F1 : FnOk X.prog X.w X.K X.mg X.base CX k fI fd ps sp) (hr : Room (k + 1) X.A) (hb : Binds X.K fd ps ds) (hd : Vals dvs ds) (hx : Passes CX X (fun _ _ _ => False)) (hg : Gl X x) (hm : X.mg x = some (.ref C)) (ha : PA X (e :: es) ta)
    (hdb : (x == ("__debug__" : Str)) = false := by decide) (he : starEach (e :: es) X.env = (false, eval e X.env) :: starEach es X.env := by rfl) (hpl : (backTo pos (starEach es X.env)).any (·.1) = false := by rfl) :
    L2N.PMk X (.Call (.Name x p) (e :: es) [] pos) (tMkO C sp dvs ta) := by
  intro pins s σ H Q I h
  obtain ⟨nm, q, N, bs, bm, sn, sub, ab, col, dd, k0, k1, k2, k3, k5, hC, hbm⟩ := T.cls
  refine wpAny_Call_Name_kw (ld_glob I hg hm ?_ hdb)
  refine PySem.W.callWith_K (h₀ := X.base) I.ok.mod.kin T.kC (thn (ha.run pos pins s σ H _ I h) fun us s1 ⟨vs, H1, I1, r1, hz, q1⟩ => ⟨I1.kIn, ?_⟩) he hpl
  show wpAny _ _ (call (.ref C) us) _ _ _
  obtain ⟨hp, g, dr, tk, os⟩ := s1
  have hsz : hp.objs.size ≤ hp.objs.size + 1 := Nat.le_succ _
  have hn : H1 (hp.objs.size + 1) = none := I1.hok.fresh hsz
  have hq := q1 (hp.objs.size + 1) hn
  have kk : ∀ b o, hp.get? b = some o → ((hp.push (PySem.W.kdv_tup us)).push (PySem.HandSPX.excO C hp.objs.size)).get? b = some o := fun b o e => Heap.get?_push_of_some _ (Heap.get?_push_of_some _ e)
  have hget : ((hp.push (PySem.W.kdv_tup us)).push (PySem.HandSPX.excO C hp.objs.size)).get? (hp.objs.size + 1) = some (PySem.HandSPX.excO C hp.objs.size) := by heap_get
  have I2 : Inv X pins σ (upd H1 (hp.objs.size + 1) (exo (hp.objs.size + 1) C none)) ⟨(hp.push (PySem.W.kdv_tup us)).push (PySem.HandSPX.excO C hp.objs.size), g, dr, tk, os⟩ :=
    I1.laid (t' := tk) (a := hp.objs.size + 1) (o := exo (hp.objs.size + 1) C none) (h' := (hp.push (PySem.W.kdv_tup us)).push (PySem.HandSPX.excO C hp.objs.size)) kk hsz (exo_ok hget)
  have r2 : Vals (V.ref (hp.objs.size + 1) :: (vs ++ dvs)) (Value.ref (hp.objs.size + 1) :: (us ++ ds)) := .cons rfl (r1.append hd)
  have hl : (Value.ref (hp.objs.size + 1) :: us ++ ds).length = ps.length := by
    have e := r2.length
    rw [F1.len _ _ _ _ hq] at e
    exact e.symm
  have hus : us.length ≤ sizeLine := by
    rw [← Paired.length r1, sizeLine_eq]
    omega
  refine wpAny_call (PySem.HandSPX.call_own F.excBase_ValueError (fun Y => PySem.HandSPX.refsVE_contains Y bm hbm) (I1.kIn _ _ hC) (PySem.W.looks_findIn I1.kIn iC) (fun self => PySem.W.bind_fn I1.kIn self tI) hus
    (codeAny_mono (F1.run _ X.stack _ _ ⟨Value.ref (hp.objs.size + 1) :: us, []⟩ (Value.ref (hp.objs.size + 1) :: (us ++ ds)) _ _ (fun _ _ _ => False) (hr.make C us []) (I2.env0.make C us []) (hb _ (Value.ref (hp.objs.size + 1) :: us) I2.kIn hl) r2 hq) fun r s' hq' => ?_))
  cases r with
  | error er => exact hx pins σ _ _ er s' I2 hq'
  | ok fl =>
    cases fl with
    | ret u =>
      obtain ⟨v, H2, os2, bare2, un2, hok2, rv, ev, d, fs, ea, ed, hd1, q2⟩ := hq'
      subst ev
      obtain ⟨h2, g2, d2, t2, os'⟩ := s'
      obtain ⟨t0, G, J, kG, ge, hoe, na⟩ := mk_end0 (d2 := d2) (t2 := t2) I1 hsz kk un2 hok2 os2 bare2 ea ed hd1
      refine ⟨rv, ⟨hp.objs.size + 1, _, _, ⟨G, g2, d2, t2, os'⟩, _, .ref C, some d, rfl, J, kG, ge, hoe, ⟨rfl, rfl, fun vs hv => ?_⟩, rfl, rfl, na, rfl, bare2, raises_own T.exC T.tyC, q2⟩⟩
      cases hv
      rfl
    | next => exact False.elim hq'
    | brk => exact False.elim hq'
    | cont => exact False.elim hq'
end DL

set_option maxHeartbeats 4000000
/-! EX2: raise, try .. except X as e. -/
namespace DL
open PySem L2 NdefX PyProof.Rows
/-- how the __init__ takes its value -/
def BindE (fd : FuncData) : Prop := (∀ us : List Value, us.length = 2 → bindArgs fd ⟨us, []⟩ = pure ((["self", "value"] : List Str).zip us)) ∧ ∀ a b : Value, bindArgs fd ⟨[a], [(("value" : Str), b)]⟩ = pure ((["self", "value"] : List Str).zip [a, b])
/-- the exceptions of the text: D the class with the __init__ at f -/
structure ExF (P : Program) (w : World) (K : PySem.W.Frag) (mg : Str → Option Value) (base : Heap) (D f : Addr) : Prop where
  fn : ∃ fd, (∀ CX : CXT, FnOk P w K mg base CX 1 f fd ["self", "value"] (spEI K D)) ∧ (∀ CX : CXT, L2H.FnH P w K mg base CX 1 f fd ["self", "value"] (spEI K D)) ∧ Binds K fd ["self", "value"] [] ∧ BindE fd
  ty : PySem.W.typeIn K (.ref f) = some (.type "function")
/-- one class of them, below D -/
structure ExK (K : PySem.W.Frag) (mg : Str → Option Value) (C D f : Addr) (x : Str) : Prop where
  s : SupC K D C
  g : mg x = some (.ref C)
  i : PySem.W.findIn K (.ref C) "__init__" = some (some (.ref f))
def sRaise (c : Nat) (ms : M (List D)) : M Fl := fun ρ => (ms ρ).bind fun l ρ1 => match l with
  | [d] => .exc c d ρ1
  | _ => .bad
section
variable {X : Cx} {adr : AdrT} {Wx : WX} {pos p p2 : Pos} {x : Str} {e : Expr} {D f : Addr}
/-- what is made, as the data layer has it -/
theorem mkO_sem {c : Nat} {W : Wd} {σ : L2.St} {ρ1 : List Slot} {F1 H1 : Hp} {d : DL.D} {v : V} (i : In X adr W) (SC : SupC X.K D (adr c)) (R1 : ERel W σ ρ1 F1 H1) (r : Rep W.K W.adr F1 d v)
    {G : XK} (p : ∀ (y : Addr) (F' H' : Hp), Same F1 F' → ERel W σ ρ1 F' H' → F' y = some (.xd [(("value" : Str), v)]) → Rep W.K W.adr F' d v → G (.ref (adr c)) (some y) H') :
    ([v] : List V).length ≤ 1000 ∧ ∀ a, H1 a = none → spEI X.K D (.ref a :: ([v] ++ [])) (upd H1 a (exo a (adr c) none)) (fun v H2 => v = .non ∧ ∃ d fs, H2 a = some (exo a (adr c) (some d)) ∧ H2 d = some (exd d fs) ∧ H1 d = none ∧ G (.ref (adr c)) (some d) (upd (L2.del H2 a) d (.xd fs))) (fun _ _ _ => False) := by
  refine ⟨by simp, fun a na => ⟨a, adr c, v, rfl, SC, upd_same, fun dx n1 n2 => ⟨rfl, dx, [("value", v)], upd_same, by rw [upd_ne n2]; exact upd_same, ?_, ?_⟩⟩⟩
  · rw [upd_ne n2] at n1; exact n1
  · rw [upd_ne n2] at n1
    have eH : upd (L2.del (upd (upd (upd H1 a (exo a (adr c) none)) dx (exd dx [("value", v)])) a (exo a (adr c) (some dx))) a) dx (.xd [("value", v)]) = upd H1 dx (.xd [("value", v)]) := by
      funext b
      by_cases hb : b = dx
      · rw [hb, upd_same, upd_same]
      · rw [upd_ne hb, upd_ne hb]
        by_cases h2 : b = a
        · rw [h2, del_same, na]
        · rw [del_ne h2, upd_ne h2, upd_ne hb, upd_ne h2]
    rw [eH]
    obtain ⟨R2, s2⟩ := R1.alloc (o := .xd [("value", v)]) n1
    exact p dx _ _ s2 R2 upd_same (Rep.mono s2 _ _ r)
theorem ds_raise (c : Nat) {cxm : Bool} {ms : M (List DL.D)} (hc : X.calm = true) (tk : TK cxm X Wx) (EF : ExF X.prog X.w X.K X.mg X.base D f) (EK : ExK X.K X.mg (adr c) D f x) (hr : Room 2 X.A) (ha : DA X adr Wx [e] ms) (hg : Gl X x := by rfl)
    (hdb : (x == ("__debug__" : Str)) = false := by decide) (he : starEach [e] X.env = (false, eval e X.env) :: starEach [] X.env := by rfl) (hpl : (backTo p2 (starEach [] X.env)).any (·.1) = false := by rfl) :
    DS X adr Wx (.Raise (some (.Call (.Name x p) [e] [] p2)) none pos) (sRaise c ms) := by
  obtain ⟨t, pt, q⟩ := ha
  obtain ⟨fd, F1, _, bd, _⟩ := EF.fn
  have sem : ∀ W σ ρ F H E, In X adr W → ERel W σ ρ F H → Po W F Wx (GS W E) (sRaise c ms ρ) → tMkO (adr c) (spEI X.K D) [] t σ H (fun cls d H' => Wx cls d σ H') := fun W σ ρ F H E i R p => by
    refine q W σ ρ F H _ i R (p.bind.imp fun l ρ1 F1 H1 s1 p vs R1 r1 => ?_)
    match l, p with
    | [d], p =>
      obtain ⟨v, _, rfl, r, rfl⟩ := r1
      exact mkO_sem (G := fun cls d H' => Wx cls d σ H') i EK.s R1 r fun y F' H' s R2 hy r2 => p σ _ _ _ _ s R2 ⟨by rw [i.a], y, v, rfl, hy, r2⟩
  cases cxm with
  | false => exact ⟨_, ps_raise hc tk (pmk_oex (pos := p2) EK.s.oex EK.i EF.ty (F1 _) hr bd .nil (L2.passes_call (X := X) (W := Wx) tk (E := fun _ _ _ => False) fun _ _ _ _ z => z.elim) hg EK.g pt hdb he hpl), sem⟩
  | true => exact ⟨_, L2N.ps_raise hc tk (pmk_oexN (pos := p2) EK.s.oex EK.i EF.ty (F1 _) hr bd .nil (L2N.passes_call (X := X) (W := Wx) tk (E := fun _ _ _ => False) fun _ _ _ _ z => z.elim) hg EK.g pt hdb he hpl), sem⟩
end

/-! ### the exception that is handled -/
def AdrT.at (adr : AdrT) (l : List (Addr × Addr × Nat)) : AdrT := { adr with hx := l }
mutual
theorem Rep.at {K : PySem.W.Frag} {adr : AdrT} {l : List (Addr × Addr × Nat)} {F : Hp} : ∀ (d : D) (v : V), Rep K adr F d v ↔ Rep K (adr.at l) F d v
  | .non, _ => Iff.rfl
  | .bl _, _ => Iff.rfl
  | .int _, _ => Iff.rfl
  | .str _, _ => Iff.rfl
  | .scr _, _ => Iff.rfl
  | .exn c d, _ => ⟨fun ⟨a, x, o, o2, w, e, h1, h2, h3, h4, r⟩ => ⟨a, x, o, o2, w, e, h1, h2, h3, h4, (Rep.at d w).mp r⟩, fun ⟨a, x, o, o2, w, e, h1, h2, h3, h4, r⟩ => ⟨a, x, o, o2, w, e, h1, h2, h3, h4, (Rep.at d w).mpr r⟩⟩
  | .tup m, _ => ⟨fun ⟨a, vs, e, s, r⟩ => ⟨a, vs, e, s, (Reps.at m vs).mp r⟩, fun ⟨a, vs, e, s, r⟩ => ⟨a, vs, e, s, (Reps.at m vs).mpr r⟩⟩
  | .lst m, _ => ⟨fun ⟨a, vs, e, s, r⟩ => ⟨a, vs, e, s, (Reps.at m vs).mp r⟩, fun ⟨a, vs, e, s, r⟩ => ⟨a, vs, e, s, (Reps.at m vs).mpr r⟩⟩
  | .obj c m, _ => ⟨fun ⟨a, dx, fv, e, s, n, r⟩ => ⟨a, dx, fv, e, s, n, (Reps.at m _).mp r⟩, fun ⟨a, dx, fv, e, s, n, r⟩ => ⟨a, dx, fv, e, s, n, (Reps.at m _).mpr r⟩⟩
theorem Reps.at {K : PySem.W.Frag} {adr : AdrT} {l : List (Addr × Addr × Nat)} {F : Hp} : ∀ (m : List D) (vs : List V), Reps K adr F m vs ↔ Reps K (adr.at l) F m vs
  | [], _ => Iff.rfl
  | d :: m, _ => ⟨fun ⟨v, r, e, h1, h2⟩ => ⟨v, r, e, (Rep.at d v).mp h1, (Reps.at m r).mp h2⟩, fun ⟨v, r, e, h1, h2⟩ => ⟨v, r, e, (Rep.at d v).mpr h1, (Reps.at m r).mpr h2⟩⟩
end
theorem ORep.at {K : PySem.W.Frag} {adr : AdrT} {l : List (Addr × Addr × Nat)} {w : Own} {i : Nat} {F H : Hp} : ∀ (o : O) (p : Addr), ORep K adr w i F H o p ↔ ORep K (adr.at l) w i F H o p
  | .lst m, p => ⟨fun ⟨e, vs, h1, h2⟩ => ⟨e, vs, h1, (Reps.at _ _).mp h2⟩, fun ⟨e, vs, h1, h2⟩ => ⟨e, vs, h1, (Reps.at _ _).mpr h2⟩⟩
  | .dK m, p => ⟨fun ⟨e, vs, h1, h3, h2⟩ => ⟨e, vs, h1, h3, (Reps.at _ _).mp h2⟩, fun ⟨e, vs, h1, h3, h2⟩ => ⟨e, vs, h1, h3, (Reps.at _ _).mpr h2⟩⟩
  | .dT m, p => ⟨fun ⟨e, vs, h1, h3, h2⟩ => ⟨e, vs, h1, h3, (Reps.at _ _).mp h2⟩, fun ⟨e, vs, h1, h3, h2⟩ => ⟨e, vs, h1, h3, (Reps.at _ _).mpr h2⟩⟩
  | .obj c m, p => ⟨fun ⟨e, dx, vs, h1, h3, h2⟩ => ⟨e, dx, vs, h1, h3, (Reps.at _ _).mp h2⟩, fun ⟨e, dx, vs, h1, h3, h2⟩ => ⟨e, dx, vs, h1, h3, (Reps.at _ _).mpr h2⟩⟩
  | .bag _ _ _ _, _ => Iff.rfl
def notHnd : Slot → Bool
  | .hnd _ _ => false
  | _ => true
theorem SRep.at {K : PySem.W.Frag} {adr : AdrT} {l : List (Addr × Addr × Nat)} {w : Own} {i : Nat} {F H : Hp} : ∀ {s : Slot} {ov : Option V}, notHnd s = true → (SRep K adr w i F H s ov ↔ SRep K (adr.at l) w i F H s ov)
  | .no, _, _ => Iff.rfl
  | .frz d, _, _ => ⟨fun ⟨v, e, r⟩ => ⟨v, e, (Rep.at _ _).mp r⟩, fun ⟨v, e, r⟩ => ⟨v, e, (Rep.at _ _).mpr r⟩⟩
  | .own o, _, _ => ⟨fun ⟨v, e, r⟩ => ⟨v, e, (ORep.at _ _).mp r⟩, fun ⟨v, e, r⟩ => ⟨v, e, (ORep.at _ _).mpr r⟩⟩
  | .io o, _, _ => ⟨fun ⟨v, e, r⟩ => ⟨v, e, (ORep.at _ _).mp r⟩, fun ⟨v, e, r⟩ => ⟨v, e, (ORep.at _ _).mpr r⟩⟩
def Wd.at (W : Wd) (l : List (Addr × Addr × Nat)) : Wd := { W with adr := W.adr.at l }
/-- slots with one put aside as nothing known -/
theorem WRel.leave {W : Wd} {w : Own} {σ : List (Option V)} {ρ : List Slot} {F H : Hp} (R : WRel W w σ ρ F H) {i : Nat} (ov : Option V) (hi : ∀ o, ρ[i]? ≠ some (.io o)) (hl : i < ρ.length) : WRel W (fun a => if w a = some i then none else w a) (σ.set i ov) (ρ.set i .no) F H := by
  have hw : ∀ a j, (if w a = some i then none else w a) = some j → w a = some j ∧ j ≠ i := fun a j e => by
    by_cases q : w a = some i
    · rw [if_pos q] at e; cases e
    · rw [if_neg q] at e
      exact ⟨e, fun z => q (by rw [e, z])⟩
  refine ⟨by rw [List.length_set, List.length_set, R.len], R.sub, R.alive, R.old, R.keep, fun p hp => ?_, fun a j e => ?_, fun a u e => ⟨(R.guard a u e).1, (R.guard a u e).2.1, by rw [(R.guard a u e).2.2]; rfl⟩, fun j s e => ?_⟩
  · obtain ⟨h1, o, h2⟩ := R.fix p hp
    have hne : i ≠ p.1 := fun z => hi o (by rw [z]; exact h2)
    rw [List.getElem?_set_ne hne, List.getElem?_set_ne hne]
    exact ⟨h1, o, h2⟩
  · obtain ⟨e, hj⟩ := hw a j e
    obtain ⟨h1, h2, h3⟩ := R.owned a j e
    refine ⟨h1, h2, h3.imp id fun ⟨z, s, e1, e2⟩ => ⟨z, s, ?_, e2⟩⟩
    rw [List.getElem?_set_ne (Ne.symm hj)]; exact e1
  · by_cases hj : i = j
    · subst hj
      rw [List.getElem?_set_self hl] at e
      cases e
      exact ⟨ov, by rw [List.getElem?_set_self (by rw [R.len]; exact hl)], trivial⟩
    · rw [List.getElem?_set_ne hj] at e
      obtain ⟨ov', h1, h2⟩ := R.slots j s e
      refine ⟨ov', by rw [List.getElem?_set_ne hj]; exact h1, h2.stay (Same.refl _) fun a z => ⟨?_, fun o q => q⟩⟩
      rw [z, if_neg (fun q => hj (Option.some.inj q).symm)]
/-- into the suite -/
theorem WRel.hold {W : Wd} {w : Own} {σ : List (Option V)} {ρ : List Slot} {F H : Hp} (R : WRel W w σ ρ F H) {i : Nat} {a x : Addr} {c : Nat} {d : D} {v : V} (hi : ρ[i]? = some .no) (hn : ρ.all notHnd = true) (hv : σ[i]? = some (some (.ref a))) (hx : F x = some (.xd [(("value" : Str), v)])) (r : Rep W.K W.adr F d v) :
    WRel (W.at [(a, x, c)]) w σ (ρ.set i (.hnd c d)) F H := by
  have hl := (List.getElem?_eq_some_iff.mp hi).1
  refine ⟨by rw [List.length_set, R.len], R.sub, R.alive, R.old, R.keep, fun p hp => ?_, fun a j e => ?_, R.guard, fun j s e => ?_⟩
  · obtain ⟨h1, o, h2⟩ := R.fix p hp
    have hne : i ≠ p.1 := fun z => by rw [z, h2] at hi; cases hi
    exact ⟨h1, o, by rw [List.getElem?_set_ne hne]; exact h2⟩
  · obtain ⟨h1, h2, h3⟩ := R.owned a j e
    refine ⟨h1, h2, h3.imp id fun ⟨z, s, e1, e2⟩ => ?_⟩
    by_cases hj : i = j
    · subst hj
      rw [hi] at e1; cases e1; exact e2.elim
    · exact ⟨z, s, by rw [List.getElem?_set_ne hj]; exact e1, e2⟩
  · by_cases hj : i = j
    · subst hj
      rw [List.getElem?_set_self hl] at e
      cases e
      exact ⟨_, hv, a, x, v, rfl, List.mem_singleton.mpr rfl, hx, (Rep.at _ _).mp r⟩
    · rw [List.getElem?_set_ne hj] at e
      obtain ⟨ov, h1, h2⟩ := R.slots j s e
      exact ⟨ov, h1, (SRep.at (List.all_eq_true.mp hn s (List.mem_of_getElem? e))).mp h2⟩
/-- out of it -/
theorem WRel.unhold {W : Wd} {l : List (Addr × Addr × Nat)} {w : Own} {σ : List (Option V)} {ρ : List Slot} {F H : Hp} (R : WRel (W.at l) w σ ρ F H) (hn : ρ.all notHnd = true) : WRel W w σ ρ F H :=
  ⟨R.len, R.sub, R.alive, R.old, R.keep, R.fix, R.owned, R.guard, fun i s e => by
    obtain ⟨ov, h1, h2⟩ := R.slots i s e
    exact ⟨ov, h1, (SRep.at (List.all_eq_true.mp hn s (List.mem_of_getElem? e))).mpr h2⟩⟩
/-! ### try: body / except X as e: suite, the suite lets nothing out -/
abbrev WxN : WX := fun _ _ _ _ => False
/-- the suite's meaning: the exception in slot i, behind it nothing -/
def ioAt (ρ : List Slot) (i : Nat) : Bool := match ρ[i]? with
  | some (.io _) => true
  | none => true
  | _ => false
def hndM (i : Nat) (c : Nat) (d : D) (mh : M Fl) : M Fl := fun ρ => match setS ρ i .no with
  | some ρ1 => if ρ1.all notHnd = true then (noX (mh (ρ1.set i (.hnd c d)))).bind fun fl ρ2 => if ioAt ρ2 i = false ∧ (ρ2.set i .no).all notHnd = true then (match fl with
    | .rt s => if notHnd s = true then .ok (.rt s) (ρ2.set i .no) else .bad
    | fl => .ok fl (ρ2.set i .no)) else .bad else .bad
  | none => .bad
def sTry (i : Nat) (ecs : List Nat) (isx : Nat → Bool) (mb : M Fl) (mh : Nat → M Fl) : M Fl := fun ρ => match mb ρ with
  | .exc c d ρ1 => if c ∈ ecs then (if isx c = true then hndM i c d (mh c) ρ1 else .exc c d ρ1) else .bad
  | r => r
/-- a block, by its meaning alone -/
def cS (K : PySem.W.Frag) (adr : AdrT) (Wx : WX) (m : M Fl) : TS := fun D σ H => ∃ W ρ F, W.K = K ∧ W.adr = adr ∧ ERel W σ ρ F H ∧ Po W F Wx (GS W D) (m ρ)
theorem dss_canon {X : Cx} {adr : AdrT} {Wx : WX} {sts : List Stmt} {m : M Fl} (h : DSs X adr Wx sts m) : PSs X sts (cS X.K adr Wx m) := by
  obtain ⟨t, p, q⟩ := h
  refine ⟨fun pins s σ H D I ⟨W, ρ, F, e1, e2, R, po⟩ => p.run pins s σ H D I (q W σ ρ F H D ⟨e1, e2⟩ R po)⟩
theorem ioAt_f {ρ : List Slot} {i : Nat} (h : ioAt ρ i = false) : i < ρ.length ∧ ∀ o, ρ[i]? ≠ some (.io o) := by
  unfold ioAt at h
  cases e : ρ[i]? with
  | none => rw [e] at h; cases h
  | some s =>
    refine ⟨(List.getElem?_eq_some_iff.mp e).1, fun o z => ?_⟩
    cases z
    rw [e] at h; cases h
section
variable {X : Cx} {adr : AdrT} {Wx : WX} {x n : Str} {body suite : List Stmt} {b₀ : Stmt} {np pos pos' : Pos} {mb : M Fl} {mh : Nat → M Fl}
theorem hnd_out {W : Wd} {l : List (Addr × Addr × Nat)} {σ : List (Option V)} {ρ : List Slot} {F H : Hp} {i : Nat} (R : ERel (W.at l) σ ρ F H) (h : ioAt ρ i = false) (hn : (ρ.set i .no).all notHnd = true) (ov : Option V) : ERel W (σ.set i ov) (ρ.set i .no) F H := by
  obtain ⟨w, R⟩ := R
  obtain ⟨h1, h2⟩ := ioAt_f h
  exact ⟨_, (R.leave ov h2 h1).unhold hn⟩
theorem ds_try (i : Nat) (ecs : List Nat) (isx : Nat → Bool) {cv : Value} (hs : X.stack = X.env :: X.outer) (hf : X.env.frame = some X.env.locals) (hN : X.N.Nodup) (hi : X.N[i]? = some n) (hln : X.env.kindOf n = some .local) (hc : Names X x cv) (tk : L2.Takes X Wx)
    (hex : ∀ c ∈ ecs, PySem.W.exmOne X.K (.ref (adr c)) cv = some (isx c))
    (hb : ∀ (W' : WX) (pn : List (Addr × Obj)) (xe : Value → Shared → Prop), TK false (X.tr pn xe) W' → PassesOwn (model X.prog X.w) X.A X.env xe → DSs (X.tr pn xe) adr W' body mb)
    (hsu : ∀ (a y : Addr) (oe : Obj) (c : Nat) (pn : List (Addr × Obj)), Zc (.ref (adr c)) (some y) oe → (∃ vs, oe.data = .fields vs) → c ∈ ecs → isx c = true → DSs (X.suite a ((a, oe) :: pn)) (adr.at [(a, y, c)]) WxN (b₀ :: suite) (mh c)) :
    DS X adr Wx (.Try body [.ExceptHandler (some (.Name x np)) (some n) (b₀ :: suite) pos'] [] [] pos) (sTry i ecs isx mb mh) := by
  refine ⟨_, ps_try_as (i := i) (tb := fun W' => cS X.K adr W' mb)
    (ts := fun a cls d D σ H => ∃ (W : Wd) (ρ : List Slot) (F : Hp) (c : Nat) (y : Addr), cls = .ref (adr c) ∧ d = some y ∧ c ∈ ecs ∧ isx c = true ∧ W.K = X.K ∧ W.adr = adr.at [(a, y, c)] ∧ ERel W σ ρ F H ∧ Po W F WxN (GS W D) (mh c ρ))
    hs hf hN hi hln hc tk (fun W' pn xe tk' pa => dss_canon (hb W' pn xe tk' pa)) (fun a oe cls d pn hz hfl => ⟨fun pins s σ H D I ⟨W, ρ, F, c, y, e1, e2, e3, e4, e5, e6, R, po⟩ => ?_⟩), fun W σ ρ F H E i' R p => ?_⟩
  · subst e1 e2
    exact (dss_canon (hsu a y oe c pn hz hfl e3 e4)).run pins s σ H D I ⟨W, ρ, F, e5, e6, R, po⟩
  · refine ⟨W, ρ, F, i'.k, i'.a, R, ?_⟩
    unfold sTry at p
    cases e : mb ρ with
    | bad => rw [e] at p; exact p
    | ok fl ρ1 => rw [e] at p; exact p
    | exc c d ρ1 =>
      rw [e] at p
      dsimp only at p
      by_cases hce : c ∈ ecs
      · rw [if_pos hce] at p
        intro σ' cls dx F' H' s R' xr
        obtain ⟨rfl, y, v, rfl, hx, r⟩ := xr
        rw [i'.a]
        refine ⟨isx c, hex c hce, fun hb1 a na => ?_, fun hb0 => ?_⟩
        · rw [if_pos hb1] at p
          unfold hndM at p
          cases es : setS ρ1 i .no with
          | none => rw [es] at p; exact p.elim
          | some ρ1' =>
            rw [es] at p
            obtain ⟨rfl, hl, hio⟩ := setS_some es
            dsimp only at p
            by_cases hn : (ρ1.set i .no).all notHnd = true
            · rw [if_pos hn] at p
              obtain ⟨w, R'⟩ := R'
              have R1 := R'.leave (some (.ref a)) hio hl
              have hσ : i < σ'.length := by rw [R'.len]; exact hl
              have R2 := R1.hold (i := i) (a := a) (x := y) (c := c) (d := d) (by rw [List.getElem?_set_self hl]) hn (by rw [List.getElem?_set_self hσ]) hx r
              refine ⟨W.at [(a, y, c)], _, F', c, y, rfl, rfl, hce, hb1, i'.k, by show W.adr.at _ = _; rw [i'.a], ⟨_, R2⟩, ?_⟩
              cases em : mh c ((ρ1.set i .no).set i (.hnd c d)) with
              | bad => rw [em] at p; exact p
              | exc c' d' ρ2 => rw [em] at p; exact p.elim
              | ok fl ρ2 =>
                rw [em] at p
                simp only [noX, Res.bind_ok] at p
                intro F2 H2 s2
                by_cases hk : ioAt ρ2 i = false ∧ (ρ2.set i .no).all notHnd = true
                · rw [if_pos hk] at p
                  cases fl with
                  | nx => exact fun σ2 R3 => p F2 H2 (s.trans s2) _ (hnd_out R3 hk.1 hk.2 none)
                  | bk => exact fun σ2 R3 => p F2 H2 (s.trans s2) _ (hnd_out R3 hk.1 hk.2 none)
                  | ct => exact fun σ2 R3 => p F2 H2 (s.trans s2) _ (hnd_out R3 hk.1 hk.2 none)
                  | rt s3 =>
                    dsimp only at p
                    by_cases hs3 : notHnd s3 = true
                    · rw [if_pos hs3] at p
                      intro σ2 v2 R3 n1 n2
                      have hl2 := ERel.len2 R3
                      have hi2 := (ioAt_f hk.1).1
                      have R4 := hnd_out (i := i) R3 (by unfold ioAt at hk ⊢; rw [List.getElem?_append_left hi2]; exact hk.1) (by rw [List.set_append_left _ _ hi2, List.all_append, hk.2]; simpa using hs3) none
                      rw [List.set_append_left _ _ hi2, List.set_append_left _ _ (by omega)] at R4
                      exact p F2 H2 (s.trans s2) _ v2 R4 n1 n2
                    · rw [if_neg hs3] at p; exact p.elim
                · rw [if_neg hk] at p; exact p.elim
            · rw [if_neg hn] at p; exact p.elim
        · rw [if_neg (by rw [hb0]; exact Bool.false_ne_true)] at p
          rw [← i'.a]
          exact p σ' _ _ F' H' s R' ⟨rfl, y, v, rfl, hx, r⟩
      · rw [if_neg hce] at p; exact p.elim
end
end DL

set_option maxHeartbeats 4000000
/-! EX3: try .. except X as n: a suite that may raise; the name goes while the new exception flies. -/
namespace DL
open PySem PySem.Spec PyProof.Rows L2 L2H HotX
/-- the name of the clause is gone -/
theorem inv_gone {X : Cx} {pins : List (Addr × Obj)} {σ : L2.St} {H : Hp} {s s2 : Shared} {i : Nat} {n : Str} {v : Option Value} {m : Str → Option Value} (I : Inv X pins σ H s) (hN : X.N.Nodup) (hi : X.N[i]? = some n) (hl : X.env.kindOf n = some .local)
    (hn : s.heap.Ns X.env.locals m) (hn' : s2.heap.Ns X.env.locals (fun x => if x = n then v else m x)) (hs : ∀ b, b ≠ X.env.locals → s2.heap.get? b = s.heap.get? b) (ho : s2.os = s.os) (hg : AllBare s2.gens) : Inv X pins (σ.set i none) H s2 := by
  obtain ⟨m0, hn0, hlk⟩ := id I.loc
  have em : m0 = m := by
    obtain ⟨o, es, ep, h1, h2, _, h3⟩ := hn0
    obtain ⟨o', es', ep', h1', h2', _, h3'⟩ := hn
    rw [h1] at h1'; cases h1'
    rw [h2] at h2'; cases h2'
    funext x
    rw [← h3, ← h3']
  subst em
  have neL : ∀ b o, X.s_0.heap.get? b = some o → b ≠ X.env.locals := fun b o e => Nat.ne_of_lt (Nat.lt_of_lt_of_le (Heap.lt_size e) I.ok.above)
  have cellK : ∀ {c : Addr} {v : Option Value}, s.heap.IsCell c v → c ≠ X.env.locals → s2.heap.IsCell c v := fun {c v} ⟨o, h1, h2⟩ hc => ⟨o, (hs c hc).trans h1, h2⟩
  refine ⟨I.ok, ho.trans I.os, hg, ⟨fun b o e n hb hx => ?_, fun b o e n hb hx => ?_, I.base.free, fun b o e hx => ?_, I.base.tups, I.base.frzs, I.base.tbls⟩, ⟨_, hn', fun j y v' e1 e2 e3 => ?_⟩, fun y c e => ?_, I.free, I.freeC, fun p hp => ?_, fun b ob e => ?_, by simpa using I.len⟩
  · exact (hs b (neL b o e)).trans (I.base.keep b o e n hb hx)
  · obtain ⟨sl, e1⟩ := I.base.slot b o e n hb hx
    exact ⟨sl, (hs b (neL b o e)).trans e1⟩
  · obtain ⟨o', e1⟩ := I.base.there b o e hx
    exact ⟨o', (hs b (neL b o e)).trans e1⟩
  · by_cases hj : j = i
    · subst hj
      by_cases hlt : j < σ.length
      · rw [List.getElem?_set_self hlt] at e2; cases e2
      · rw [List.getElem?_eq_none (by simpa using hlt)] at e2; cases e2
    · rw [List.getElem?_set_ne (Ne.symm hj)] at e2
      obtain ⟨u', r', q⟩ := hlk j y v' e1 e2 e3
      refine ⟨u', r', ?_⟩
      rcases q with ⟨k, e⟩ | ⟨k, c, e, z⟩
      · have ny : y ≠ n := fun e => hj (nodup_ix hN e1 (e ▸ hi))
        exact .inl ⟨k, (if_neg ny).trans e⟩
      · exact .inr ⟨k, c, e, cellK z (I.cne y c e)⟩
  · obtain ⟨w', z⟩ := I.cell y c e
    exact ⟨w', cellK z (I.cne y c e)⟩
  · obtain ⟨e, n, ne, nf, d⟩ := I.pin p hp
    exact ⟨(hs p.1 ne).trans e, n, ne, nf, d⟩
  · refine (I.hok b ob e).stay (fun c w' hc q => (hs c ?_).trans q) (fun _ q => q) fun _ _ q => q
    intro z
    subst z
    rcases hc with hc | hc
    · rw [← hc, I.free] at e; cases e
    · rw [I.free] at hc; cases hc
theorem funFrames_but {h h' B : Heap} {L : Addr} (k : ∀ b, b ≠ L → h'.get? b = h.get? b) {o : Obj} (hL : h'.get? L = some o) (hd : ∀ vs, o.data ≠ .fields vs) : ∀ {l : List Env}, h.FunFrames B l → h'.FunFrames B l
  | [], _ => trivial
  | env :: r, ⟨h1, ⟨L', o', e1, e2, e3, e4⟩, h2⟩ => by
    refine ⟨h1, ?_, funFrames_but k hL hd h2⟩
    by_cases z : L' = L
    · exact ⟨L', o, e1, e2, by rw [z]; exact hL, hd⟩
    · exact ⟨L', o', e1, e2, (k L' z).trans e3, e4⟩
theorem held_but {B : Heap} {l : List Env} {a L : Addr} {Z : Obj → Prop} {h h' : Heap} (x : HandSPX.HeldZ B l a Z L h) (k : ∀ b, b ≠ L → h'.get? b = h.get? b) {o o2 : Obj} (hL0 : h.get? L = some o2) (hd0 : ∀ vs, o2.data ≠ .fields vs) (hL : h'.get? L = some o) (hd : ∀ vs, o.data ≠ .fields vs)
    (hB : B.get? L = none) : HandSPX.HeldZ B l a Z L h' := by
  obtain ⟨k1, k2, k3, oe, vs, T, oT, ts, he, hz, hdd, h1, hnT, hTe, hT, hdT, h3⟩ := x
  have na : a ≠ L := fun z => by
    rw [z, hL0] at he; cases he
    exact hd0 _ hdd
  have nT : T ≠ L := fun z => by
    rw [z, hL0] at hT; cases hT
    exact hd0 _ hdT
  refine ⟨fun b o e => ?_, k2, funFrames_but k hL hd k3, oe, vs, T, oT, ts, (k a na).trans he, hz, hdd, h1, hnT, hTe, (k T nT).trans hT, hdT, h3⟩
  rw [k b fun z => by rw [z, hB] at e; cases e]
  exact k1 b o e
/-- the context of such a suite -/
abbrev suiteY (X : Cx) (a : Addr) (pn : List (Addr × Obj)) (xe : Value → Shared → Prop) : Cx := { X with A := X.A.mark (some (.ref a)), calm := false, pn := pn, xe := xe }
theorem suiteY_of {X : Cx} {a : Addr} {pn pins : List (Addr × Obj)} {σ : L2.St} {H : Hp} {s : Shared} {xe : Value → Shared → Prop} (I : Inv (X.suite a pn) pins σ H s) : Inv (suiteY X a pn xe) pins σ H s :=
  (show Inv ((X.suite a pn).wish xe) pins σ H s from I.wish xe)
theorem unsuiteY {X : Cx} {a : Addr} {q : Addr × Obj} {pn' pins : List (Addr × Obj)} {σ : L2.St} {H : Hp} {s : Shared} {xe : Value → Shared → Prop} (I : Inv (suiteY X a (q :: (X.pn ++ pins)) xe) pn' σ H s) (ok : X.Ok) : Inv X pins σ H s :=
  Inv.unsuite (X := X) (a := a) (q := q) (pn' := pn') (show Inv ((suiteY X a (q :: (X.pn ++ pins)) xe).wish fun _ _ => False) pn' σ H s from I.wish fun _ _ => False) ok
section
variable {X : Cx} {Wout : WX} {i : Nat} {n : Str} {pos' : Pos}
/-- an exception out of the suite: the name goes, it flies on -/
theorem flies_on {A' : Around} {pins : List (Addr × Obj)} {Q : Flow → Shared → Prop} {E E' : Value → Shared → Prop} {s3 : Shared} (hs : X.stack = X.env :: X.outer) (hf : X.env.frame = some X.env.locals) (hN : X.N.Nodup) (hi : X.N[i]? = some n) (hl : X.env.kindOf n = some .local)
    (hA : A'.frames = some (X.env :: X.outer)) (tk : L2.Takes X Wout) {a : Addr} {B : Heap} {sI : Shared} {σ : L2.St} {H : Hp} {cls : Value} {d : Option Addr} (J : Inv X pins σ H sI) (nb : ∀ b o, sI.heap.get? b = some o → b ∉ frs X.stack → B.get? b = some o) (up : sI.heap.UpToSlots s3.heap)
    (sky : Sky B X.stack a (Zc cls d) X.env.locals s3.heap) (na : H a = none) (os : s3.os = sI.os) (ag : AllBare s3.gens) (w : Wout cls d (σ.set i none) H)
    (hE : ∀ s', X.xe (.ref a) s' → E (.ref a) s') :
    wpAny (model X.prog X.w) A' (noteFrame (.ref a) X.env) (fun _ s₃' => wpAny (model X.prog X.w) A' (do bindName X.env n .none; unbindBehindTheSuite X.env n pos')
      (fun _ s₄ => wpAny (model X.prog X.w) A' (PySem.passOn "try.except-as" (.ref a) X.env : Sem Flow) Q E s₄) E' s₃') E s3 := by
  have stk : ∀ b, b ∈ frs X.stack → B.get? b = none := fun b hb => by
    have ff : s3.heap.FunFrames B X.stack := by
      rcases sky with ⟨_, _, x, _⟩ | ⟨_, _, x, _⟩ | ⟨_, _, x, _⟩ <;> exact x
    exact (ff.mem hb).1
  have hLs : X.env.locals ∈ frs X.stack := by rw [hs]; exact List.mem_filterMap.mpr ⟨X.env, List.mem_cons_self, hf⟩
  have go : ∀ h3, HandSPX.HeldZ B (X.env :: X.outer) a (Zc cls d) X.env.locals h3 → s3.heap.UpToSlots h3 → wpAny (model X.prog X.w) A' (do bindName X.env n .none; unbindBehindTheSuite X.env n pos')
      (fun _ s₄ => wpAny (model X.prog X.w) A' (PySem.passOn "try.except-as" (.ref a) X.env : Sem Flow) Q E s₄) E' { s3 with heap := h3 } := fun h3 held up3 => by
    have upA := up.trans up3
    obtain ⟨G1, g1, g2⟩ := restrict h3 fun b => (B.get? b).isSome || decide (b ∈ frs X.stack)
    have st : B.StaysIn h3 := held.1
    have gB : ∀ b o, B.get? b = some o → G1.get? b = some o := fun b o e => by
      rw [g1 b (by simp [e])]
      exact st b o e
    have gF : ∀ b, b ∈ frs X.stack → G1.get? b = h3.get? b := fun b hb => g1 b (by simp [hb])
    have og : ∀ b o, G1.get? b = some o → h3.get? b = some o ∧ ((B.get? b).isSome = true ∨ b ∈ frs X.stack) := fun b o e => by
      cases q : ((B.get? b).isSome || decide (b ∈ frs X.stack)) with
      | false => rw [g2 b q] at e; cases e
      | true =>
        rw [g1 b q] at e
        exact ⟨e, by simpa [Bool.or_eq_true] using q⟩
    have slotF : ∀ b ∈ frs X.stack, ∀ o, sI.heap.get? b = some o → ∃ sl, h3.get? b = some { o with slots := sl } := fun b hb o e => by
      obtain ⟨_, o', e', hd⟩ := J.stack.mem hb
      rw [e] at e'; cases e'
      exact upA b o e hd
    have hok : HOk X.prog X.w H G1 := (J.inGround nb).kept gB
    have J1 : Inv X pins σ H { s3 with heap := G1 } := J.call' (s' := { s3 with heap := G1 }) (ch := []) os ⟨fun b o e n hb _ => gB b o (nb b o e hb), fun b o e n hb _ => by
        obtain ⟨sl, q⟩ := slotF b hb o e
        exact ⟨sl, by rw [gF b hb]; exact q⟩, fun b o e n _ => n, fun b o e _ => by
        by_cases hb : b ∈ frs X.stack
        · obtain ⟨sl, q⟩ := slotF b hb o e
          exact ⟨_, by rw [gF b hb]; exact q⟩
        · exact ⟨o, gB b o (nb b o e hb)⟩, fun _ _ e => e, fun _ _ _ e => e, fun _ ps e => ⟨#[], by simpa using e⟩⟩ hok ag fun _ z => by cases z
    obtain ⟨m, hn1, _⟩ := id J1.loc
    have hnh : h3.Ns X.env.locals m := by
      obtain ⟨o, es, ep, q1, q2⟩ := hn1
      exact ⟨o, es, ep, by rw [← gF _ hLs]; exact q1, q2⟩
    have hcls : (X.env.scope.kind == .class || (X.env.scope.kind == .module && X.env.locals != X.env.globals)) = false := by rw [J.ok.kind]; rfl
    refine wpAny_nameGoes_keeps hl hnh hcls fun h' v hn' hsb => ?_
    obtain ⟨G2, k1, k2⟩ := restrict h' fun b => (B.get? b).isSome || decide (b ∈ frs X.stack)
    have same : ∀ b, b ≠ X.env.locals → G2.get? b = G1.get? b := fun b hb => by
      cases q : ((B.get? b).isSome || decide (b ∈ frs X.stack)) with
      | false => rw [g2 b q, k2 b q]
      | true => rw [g1 b q, k1 b q]; exact hsb.2 b hb
    have hL2 : G2.get? X.env.locals = h'.get? X.env.locals := k1 _ (by simp [hLs])
    have hnG : G2.Ns X.env.locals (fun x => if x = n then v else m x) := by
      obtain ⟨o, es, ep, q1, q2⟩ := hn'
      exact ⟨o, es, ep, by rw [hL2]; exact q1, q2⟩
    have J2 : Inv X pins (σ.set i none) H { s3 with heap := G2 } := inv_gone J1 hN hi hl hn1 hnG same rfl ag
    have G2h : ∀ b o, G2.get? b = some o → h'.get? b = some o := fun b o e => by
      cases q : ((B.get? b).isSome || decide (b ∈ frs X.stack)) with
      | false => rw [k2 b q] at e; cases e
      | true => rw [k1 b q] at e; exact e
    have held2 : HandSPX.HeldZ B (X.env :: X.outer) a (Zc cls d) X.env.locals h' := by
      obtain ⟨o0, es0, ep0, q1, q2, _⟩ := hnh
      obtain ⟨o1, es1, ep1, r1, r2, _⟩ := id hn'
      exact held_but held hsb.2 q1 (fun vs z => by rw [q2] at z; cases z) r1 (fun vs z => by rw [r2] at z; cases z) (stk _ hLs)
    obtain ⟨f1, f2, f3, oe, vs, T, oT, ts, he, hz, hd, h1, hr⟩ := id held2
    unfold PySem.passOn
    refine wpAny_bind (wpAny_field he hd h1 ?_)
    rw [if_neg (show ¬ ((Value.ref T == Value.none) = true) from by simp)]
    have fin : wpAny (model X.prog X.w) A' (setFlight (.ref a) X.env.frame) (fun _ s4 => wpAny (model X.prog X.w) A' (throw (.ref a) : Sem Flow) Q E s4) E { s3 with heap := h', toks := s3.toks + 1 } := by
      rw [hf]
      refine HandSPX.setFlight_onZ (s := { s3 with heap := h', toks := s3.toks + 1 }) held2 fun h4 hh4 up4 => wpAny_throw (hE _ (tk _ _ ?_))
      refine ⟨a, B, { s3 with heap := G2 }, pins, σ.set i none, H, cls, d, rfl, J2, fun b o e hb => ?_, (Heap.UpToSlots.of_keeps G2h).trans up4, .inr (.inr (by rw [hs]; exact hh4)), na, rfl, ag, w⟩
      have nL : b ≠ X.env.locals := fun z => hb (z ▸ hLs)
      have e2 := G2h b o e
      rcases hq : (B.get? b).isSome || decide (b ∈ frs X.stack) with _ | _
      · rw [k2 b hq] at e; cases e
      · have : (B.get? b).isSome = true := by simpa [hb] using hq
        obtain ⟨o', q⟩ := Option.isSome_iff_exists.mp this
        have z := f1 b o' q
        rw [e2] at z; cases z
        exact q
    first
      | exact wpAny_bind (wpAny_pure (wpAny_bind fin))
      | exact wpAny_bind fin
  rw [hs] at sky
  rcases sky with ⟨hB, hn, hl', oe, vs, he, hz, hd, h1⟩ | fl | hh
  · exact HandSPX.look_newZ Zc.steady hA hl' hf he hB hn hd h1 hz go
  · exact HandSPX.looks_onZ Zc.steady hA hf fl go
  · exact HandSPX.againZ hf hh.2.2.2 (go s3.heap hh (Heap.UpToSlots.refl _))
end
end DL

set_option maxHeartbeats 4000000
/-! EX4: the rule for try .. except X as n with a suite that may raise; raise .. from n. -/
namespace DL
open PySem PySem.Spec PyProof.Rows L2 L2H HotX
section
variable {X : Cx} {x n : Str} {c : Value} {i : Nat} {body suite : List Stmt} {b₀ : Stmt} {np pos pos' : Pos} {tb : WX → TS} {ts : Addr → Value → Option Addr → TS} {Wout : WX}
theorem ps_try_asX (hs : X.stack = X.env :: X.outer) (hf : X.env.frame = some X.env.locals) (hN : X.N.Nodup) (hi : X.N[i]? = some n) (hln : X.env.kindOf n = some .local) (hc : Names X x c) (hpa : ∀ hd : Option Value, PassesOwnAt (model X.prog X.w) (X.A.mark hd) X.A X.env X.xe) (tk : L2.Takes X Wout)
    (hb : ∀ (W : WX) (pn : List (Addr × Obj)) (xe : Value → Shared → Prop), L2N.Takes (X.tr pn xe) W → PassesOwn (model X.prog X.w) X.A X.env xe → PSs (X.tr pn xe) body (tb W))
    (hsu : ∀ (a : Addr) (oe : Obj) (cls : Value) (d : Option Addr) (pn : List (Addr × Obj)) (xe : Value → Shared → Prop), L2N.Zn cls d oe → (∃ vs, oe.data = .fields vs) → L2.Takes (suiteY X a ((a, oe) :: pn) xe) (fun cls d σ H => Wout cls d (σ.set i none) H) → HotC (suiteY X a ((a, oe) :: pn) xe) →
      PSs (suiteY X a ((a, oe) :: pn) xe) (b₀ :: suite) (ts a cls d)) :
    PS X (.Try body [.ExceptHandler (some (.Name x np)) (some n) (b₀ :: suite) pos'] [] [] pos) (fun D σ H => tb (wAs X.K c i ts Wout D) D σ H) := by
  refine ⟨fun pins s σ H D I h => ?_⟩
  have ok := I.ok
  have hfr : X.A.frames = some (X.env :: X.outer) := by rw [ok.frames, hs]
  have hloc : Loc X.env.scope n := .inl hln
  refine wpAny_Try_except ?_
  refine wpAny_mono ((hb (wAs X.K c i ts Wout D) (X.pn ++ pins) (fun e s₁ => wpAny (model X.prog X.w) X.A (noteFrame e X.env) (fun _ s₂ => wpAny (model X.prog X.w) X.A (setFlight e none) (fun _ s₃ =>
    wpAny (model X.prog X.w) X.A (handleBy e X.env [.ExceptHandler (some (.Name x np)) (some n) (b₀ :: suite) pos']) (SP X pins D) X.xe s₃) X.xe s₂) X.xe s₁) (fun u s' xx => ?_) PassesOwn.looking).run [] s σ H D (I.toTry _) h) (fun f s1 hsp => ?_) (fun e s1 he => he)
  · -- the catch
    obtain ⟨a, B, sI, pins', σ', H', cls, d, rfl, J', nb, up, sky, na, os, ag, b, hb1, hyes, hno⟩ := xx
    have J : Inv X pins σ' H' sI := J'.ofTry ok
    have sky' : Sky B (X.env :: X.outer) a (L2N.Zn cls d) X.env.locals s'.heap := by rw [← hs]; exact sky
    show wpAny (model X.prog X.w) X.A (noteFrame (.ref a) X.env) _ _ _
    refine L2N.Sky.land L2N.Zn.steady hfr hf sky' fun h3 fl3 up3 => ?_
    have J3 : Inv X pins σ' H' { s' with heap := h3 } := J.landed nb fl3.1 (up.trans up3) os ag
    obtain ⟨oe3, vs3, he3, hz3, hd3⟩ := fl3.there
    have notFr : ∀ {h : Heap} {o : Obj} {vs : Array Value}, h.FunFrames B (X.env :: X.outer) → h.get? a = some o → o.data = .fields vs → a ∉ frs (X.env :: X.outer) := fun {h o vs} ff e dd hm => by
      obtain ⟨_, o', e', hnf⟩ := ff.mem hm
      rw [e] at e'; cases e'
      exact hnf _ dd
    have nfr := notFr fl3.2.2.1 he3 hd3
    have nL : a ≠ X.env.locals := fun z => nfr (List.mem_filterMap.mpr ⟨X.env, List.mem_cons_self, by rw [hf, z]⟩)
    have nF : a ∉ X.fs := fun hm => by
      obtain ⟨e, he, q⟩ := List.mem_filterMap.mp hm
      exact nfr (List.mem_filterMap.mpr ⟨e, List.mem_cons_of_mem _ he, q⟩)
    have S3 := J3.suite he3 hd3 na nL nF
    refine wpAny_handleBy_cons (codeAny_handlers_test ?_) (by intro q; cases q)
    have LT : PySem.W.Looks (model X.prog X.w) h3 (typeOf (.ref a)) cls := fun A Q E s k q => wpAny_typeOf_ref (k _ _ he3) (by rw [hz3.1]; exact q)
    have LM := PySem.W.exm_one (M := model X.prog X.w) (J3.kIn) LT hb1
    have test : ∀ {Q : Value → Shared → Prop} {E : Value → Shared → Prop}, Q c { s' with heap := h3 } → wpAny (model X.prog X.w) (X.A.mark (some (.ref a))) (eval (.Name x np) X.env) Q E { s' with heap := h3 } := fun {Q E} q => by
      obtain ⟨hg, hdbg, hm | ⟨hm, hv, hnn⟩⟩ := hc
      · exact ld_glob (X := X.suite a ((a, oe3) :: (X.pn ++ pins))) S3 hg hm q hdbg
      · exact ld_blt (X := X.suite a ((a, oe3) :: (X.pn ++ pins))) S3 hg hm hv q hnn hdbg
    refine test (LM.here ?_)
    cases b with
    | true =>
      refine codeAny_handlers_suite_as ?_
      refine HandSPX.lands_againZ fl3 fun h4 fl4 up4 => ?_
      have J4 : Inv X pins σ' H' { s' with heap := h4 } := J.landed nb fl4.1 ((up.trans up3).trans up4) os ag
      obtain ⟨oe4, vs4, he4, hz4, hd4⟩ := fl4.there
      have S4 := J4.suite he4 hd4 na nL nF
      refine store_ok (X := X.suite a ((a, oe4) :: (X.pn ++ pins))) (v := .ref a) S4 hN hi hloc rfl (fun s5 S5 => ?_) (.inr hln)
      have hot : ∀ xe, HotC (suiteY X a ((a, oe4) :: (X.pn ++ pins)) xe) := fun xe => ⟨(a, oe4), ⟨rfl, vs4, hd4, hz4.2.2 vs4 hd4⟩, List.mem_cons_self⟩
      refine wpAny_mono ((hsu a oe4 cls d (X.pn ++ pins) (fun x s₃ => wpAny (model X.prog X.w) (X.A.mark (some (.ref a))) (noteFrame x X.env) (fun _ s₃' => wpAny (model X.prog X.w) (X.A.mark (some (.ref a))) (do bindName X.env n .none; unbindBehindTheSuite X.env n pos')
          (fun _ s₄ => wpAny (model X.prog X.w) (X.A.mark (some (.ref a))) (PySem.passOn "try.except-as" x X.env : Sem Flow) (fun _ _ => False) (notedBy (model X.prog X.w) (X.A.mark (some (.ref a))) X.env (cameBackBy (model X.prog X.w) X.A X.env X.xe)) s₄)
          (fun y s₄ => wpAny (model X.prog X.w) (X.A.mark (some (.ref a))) (setFlight x none) (fun _ s₅ => (notedBy (model X.prog X.w) (X.A.mark (some (.ref a))) X.env (cameBackBy (model X.prog X.w) X.A X.env X.xe)) y s₅) (notedBy (model X.prog X.w) (X.A.mark (some (.ref a))) X.env (cameBackBy (model X.prog X.w) X.A X.env X.xe)) s₄) s₃') (notedBy (model X.prog X.w) (X.A.mark (some (.ref a))) X.env (cameBackBy (model X.prog X.w) X.A X.env X.xe)) s₃)
          hz4 ⟨_, hd4⟩ (fun u2 s2 x2 => ?_) (hot _)).run [] s5 _ H' _ (suiteY_of S5) (hyes rfl a na)) (fun f s6 hsp => ?_) (fun _ _ z => z)
      · obtain ⟨a2, B2, sI2, pn2, σ2, H2, cls2, d2, rfl, I2, nb2, up2, sky2, na2, os2, ag2, w2⟩ := x2
        exact flies_on (A' := X.A.mark (some (.ref a))) hs hf hN hi hln hfr tk (unsuiteY I2 ok) nb2 up2 sky2 na2 os2 ag2 w2 fun s7 z => hpa (some (.ref a)) _ _ z
      have end_ : ∀ {σ6 : L2.St} {H6 : Hp} {Q : Shared → Prop} {xe : Value → Shared → Prop}, Inv (suiteY X a ((a, oe4) :: (X.pn ++ pins)) xe) [] σ6 H6 s6 → (∀ s7, Inv X pins (σ6.set i none) H6 s7 → Q s7) →
          wpAny (model X.prog X.w) X.A (do bindName X.env n .none; unbindBehindTheSuite X.env n pos') (fun _ s7 => Q s7) X.xe s6 := fun {σ6 H6 Q xe} S6 hq => gone_ok (unsuiteY S6 ok) hN hi hln hq
      cases f with
      | next =>
        obtain ⟨σ6, H6, S6, q6⟩ := hsp
        exact end_ S6 fun s7 J7 => ⟨_, _, J7, q6⟩
      | brk =>
        obtain ⟨σ6, H6, S6, q6⟩ := hsp
        exact end_ S6 fun s7 J7 => ⟨_, _, J7, q6⟩
      | cont =>
        obtain ⟨σ6, H6, S6, q6⟩ := hsp
        exact end_ S6 fun s7 J7 => ⟨_, _, J7, q6⟩
      | ret u =>
        obtain ⟨v6, σ6, H6, S6, r6, q6⟩ := hsp
        exact end_ S6 fun s7 J7 => ⟨_, _, _, J7, r6, q6⟩
    | false =>
      show wpAny _ X.A (handleBy (.ref a) X.env []) _ _ _
      refine wpAny_handleBy_nil ?_
      have fl5 := flyingZ_imp (fun o z => L2N.Zn.zc z) fl3
      obtain ⟨k1, k2, k3, oe, vs, T, oT, ts', he, hz, hd, h1, hr⟩ := id fl5
      unfold PySem.passOn
      refine wpAny_bind (wpAny_field he hd h1 ?_)
      rw [if_neg (show ¬ ((Value.ref T == Value.none) = true) from by simp)]
      have fin : wpAny (model X.prog X.w) X.A (setFlight (.ref a) X.env.frame) (fun _ s4 => wpAny (model X.prog X.w) X.A (throw (.ref a) : Sem Flow) (SP X pins D) X.xe s4) X.xe { s' with heap := h3 } := by
        rw [hf]
        refine HandSPX.setFlight_upZ fl5 fun h4 hh4 up4 => wpAny_throw (tk _ _ ?_)
        exact ⟨a, B, sI, pins, σ', H', cls, d, rfl, J, nb, (up.trans up3).trans up4, .inr (.inr (by rw [hs]; exact hh4)), na, os, ag, hno rfl⟩
      first
        | exact wpAny_bind (wpAny_pure (wpAny_bind fin))
        | exact wpAny_bind fin
  · cases f with
    | next =>
      obtain ⟨σ', H', J', q⟩ := hsp
      exact wpAny_execs_nil ⟨σ', H', J'.ofTry ok, q⟩
    | brk =>
      obtain ⟨σ', H', J', q⟩ := hsp
      exact ⟨σ', H', J'.ofTry ok, q⟩
    | cont =>
      obtain ⟨σ', H', J', q⟩ := hsp
      exact ⟨σ', H', J'.ofTry ok, q⟩
    | ret u =>
      obtain ⟨v, σ', H', J', r, q⟩ := hsp
      exact ⟨v, σ', H', J'.ofTry ok, r, q⟩
end
end DL

set_option maxHeartbeats 4000000
/-! EX5: raise X(..) from n in an except suite, n the handled exception. -/
namespace DL
open PySem PySem.Spec PyProof.Rows L2 L2H HotX
/-- the heap behind «from c»: field 3 is c, field 4 is True -/
def causeFrom (h : Heap) (a : Addr) (c : Value) : Heap := (h.update a (Obj.mapFields (·.setIfInBounds 3 c))).update a (Obj.mapFields (·.setIfInBounds 4 (.bool true)))
theorem causeFrom_at {h : Heap} {a : Addr} {c : Value} {oe : Obj} {vs : Array Value} (ha : h.get? a = some oe) (hd : oe.data = .fields vs) :
    (causeFrom h a c).get? a = some ((oe.mapFields (·.setIfInBounds 3 c)).mapFields (·.setIfInBounds 4 (.bool true))) ∧ ((oe.mapFields (·.setIfInBounds 3 c)).mapFields (·.setIfInBounds 4 (.bool true))).data = .fields ((vs.setIfInBounds 3 c).setIfInBounds 4 (.bool true)) := by
  have hd3 := Obj.data_mapFields hd (·.setIfInBounds 3 c)
  have ha3 := Heap.get?_update_self (Obj.mapFields (·.setIfInBounds 3 c)) ha (Obj.isFreed_of_fields hd3)
  have hd4 := Obj.data_mapFields hd3 (·.setIfInBounds 4 (.bool true))
  exact ⟨Heap.get?_update_self (Obj.mapFields (·.setIfInBounds 4 (.bool true))) ha3 (Obj.isFreed_of_fields hd4), hd4⟩
theorem causeFrom_other {h : Heap} {a b : Addr} {c : Value} (hne : a ≠ b) : (causeFrom h a c).get? b = h.get? b := by
  unfold causeFrom
  rw [Heap.get?_update_other _ _ hne, Heap.get?_update_other _ _ hne]
theorem raise_made_hotF {prog : Program} {w : World} {A : Around} {E : Value → Shared → Prop} {env : Env} {s : Shared} {x c : Sem Value} {Q : Flow → Shared → Prop} {x1 : Addr}
    (h : wpAny (model prog w) A x (fun v s₁ => ∃ a oe vs cls, v = .ref a ∧ s₁.heap.get? a = some oe ∧ oe.cls = cls ∧ oe.data = .fields vs ∧ vs[1]? = some .none ∧ 4 < vs.size ∧ x1 ≠ a ∧ HotAt A x1 s₁.heap ∧
      PySem.W.Looks (model prog w) s₁.heap (isSubtype cls (.type "BaseException")) true ∧ PySem.W.Looks (model prog w) (causeFrom s₁.heap a (.ref x1)) (typeOf cls) (.type "type") ∧
      (∀ Q' : Value → Shared → Prop, Q' (.ref x1) s₁ → wpAny (model prog w) A c Q' E s₁) ∧ PySem.W.Looks (model prog w) s₁.heap (isInstance (.ref x1) (.type "BaseException")) true ∧
      E (.ref a) { s₁ with heap := (causeFrom s₁.heap a (.ref x1)).update a (Obj.mapFields (·.setIfInBounds 2 (.ref x1))) }) E s) :
    wpAny (model prog w) A (raiseStmt env (some x) (some c)) Q E s := by
  unfold raiseStmt
  dsimp only
  refine wpAny_bind (wpAny_mono h (fun v s₁ h₁ => ?_) fun _ _ x => x)
  obtain ⟨a, oe, vs, cls, rfl, ha, hcls, hd, h1, hi, hne, hot, L1, L3, hcs, LI1, hE⟩ := h₁
  have LT : PySem.W.Looks (model prog w) s₁.heap (typeOf (.ref a)) cls := fun A Q E s k q => wpAny_typeOf_ref (k _ _ ha) (by rw [hcls]; exact q)
  have LI : PySem.W.Looks (model prog w) s₁.heap (isInstance (.ref a) (.type "BaseException")) true := LT.andThen L1
  have hnt : ∀ {Q' : Bool → Shared → Prop}, Q' false s₁ → wpAny (model prog w) A (isType (.ref a)) Q' E s₁ := by
    intro Q' hq
    simp only [isType, loadHead]
    refine wpAny_bind (wpAny_loadPart ha ?_)
    rw [hd]; exact wpAny_pure hq
  have hnt1 : ∀ {Q' : Bool → Shared → Prop}, Q' false s₁ → wpAny (model prog w) A (isType (.ref x1)) Q' E s₁ := by
    intro Q' hq
    obtain ⟨_, o1, vs1, g1, g2, _⟩ := hot
    simp only [isType, loadHead]
    refine wpAny_bind (wpAny_loadPart g1 ?_)
    rw [g2]; exact wpAny_pure hq
  have hd3 := Obj.data_mapFields hd (·.setIfInBounds 3 (.ref x1))
  have ha3 := Heap.get?_update_self (Obj.mapFields (·.setIfInBounds 3 (.ref x1))) ha (Obj.isFreed_of_fields hd3)
  obtain ⟨ha4, hd4⟩ := causeFrom_at (c := .ref x1) ha hd
  have s3 : 3 < vs.size := by omega
  have s4 : 4 < (vs.setIfInBounds 3 (Value.ref x1)).size := by rw [set_size]; exact hi
  have s2 : 2 < ((vs.setIfInBounds 3 (Value.ref x1)).setIfInBounds 4 (Value.bool true)).size := by rw [set_size, set_size]; omega
  have h14 : ((vs.setIfInBounds 3 (Value.ref x1)).setIfInBounds 4 (Value.bool true))[1]? = some Value.none := set_other (by decide) (set_other (by decide) h1)
  have hcls4 : ((oe.mapFields (·.setIfInBounds 3 (.ref x1))).mapFields (·.setIfInBounds 4 (.bool true))).cls = cls := by rw [Obj.cls_mapFields, Obj.cls_mapFields]; exact hcls
  have LT4 : PySem.W.Looks (model prog w) (causeFrom s₁.heap a (.ref x1)) (typeOf (.ref a)) cls := fun A Q E s k q => wpAny_typeOf_ref (k _ _ ha4) (by rw [hcls4]; exact q)
  have hnt4 : ∀ {Q' : Bool → Shared → Prop}, Q' false { s₁ with heap := causeFrom s₁.heap a (.ref x1) } → wpAny (model prog w) A (isType (.ref a)) Q' E { s₁ with heap := causeFrom s₁.heap a (.ref x1) } := by
    intro Q' hq
    simp only [isType, loadHead]
    refine wpAny_bind (wpAny_loadPart ha4 ?_)
    rw [hd4]; exact wpAny_pure hq
  have hot4 : HotAt A x1 (causeFrom s₁.heap a (.ref x1)) := by
    obtain ⟨q1, o, vs', q2, q3, q4⟩ := hot
    exact ⟨q1, o, vs', by rw [causeFrom_other (Ne.symm hne)]; exact q2, q3, q4⟩
  -- what stands behind the two stores
  have rest : wpAny (model prog w) A (do
      let b ← isType (.ref a)
      if b = true then do
        let e ← holding [.ref a] (raisedFor (.ref a) (.ref a))
        setFlight e none
        raiseNew e
      else do
        let e ← raisedInstance (.ref a)
        setFlight e none
        raiseNew e : Sem Flow) Q E { s₁ with heap := causeFrom s₁.heap a (.ref x1) } := by
    refine wpAny_bind (hnt4 ?_)
    simp only [Bool.false_eq_true, if_false]
    unfold raisedInstance
    refine wpAny_bind (wpAny_bind (LT4.here (wpAny_bind (L3.here ?_))))
    rw [if_pos (beq_self_eq_true _)]
    refine wpAny_pure ?_
    unfold setFlight
    refine wpAny_bind (wpAny_bind (wpAny_field ha4 hd4 h14 ?_))
    rw [if_neg (by decide)]
    refine wpAny_pure ?_
    exact raiseNew_hot hot4 hne ha4 hd4 s2 hE
  refine wpAny_bind (wpAny_holding (hcs _ (wpAny_bind (wpAny_pure ?_))))
  dsimp only
  refine wpAny_bind (wpAny_holding ?_)
  unfold excFromValue isExcClass
  refine wpAny_bind (wpAny_bind (hnt ?_))
  simp only [Bool.false_eq_true, if_false]
  refine wpAny_pure ?_
  simp only [Bool.false_eq_true, if_false]
  refine wpAny_bind (LI.here ?_)
  simp only [if_true]
  refine wpAny_pure ?_
  have ec : (Value.ref x1 == Value.none) = false := by simp
  have cau : ∀ {Q' : Value → Shared → Prop}, Q' (.ref x1) s₁ → wpAny (model prog w) A (holding [Value.ref a] (excFromValue (.ref x1) "exception causes must derive from BaseException")) Q' E s₁ := by
    intro Q' q
    refine wpAny_holding ?_
    unfold excFromValue isExcClass
    refine wpAny_bind (wpAny_bind (hnt1 ?_))
    simp only [Bool.false_eq_true, if_false]
    refine wpAny_pure ?_
    simp only [Bool.false_eq_true, if_false]
    refine wpAny_bind (LI1.here ?_)
    simp only [if_true]
    exact wpAny_pure q
  unfold excFromValue isExcClass at cau
  simp only [ec, Bool.false_eq_true, if_false]
  first
  | refine wpAny_bind (cau (wpAny_bind (wpAny_setField ha hd s3 (wpAny_bind (wpAny_setField ha3 hd3 s4 ?_)))))
  | refine wpAny_bind (cau (wpAny_bind (wpAny_bind (wpAny_setField ha hd s3 (wpAny_bind (wpAny_setField ha3 hd3 s4 ?_))))))
  | refine wpAny_bind (wpAny_bind (cau (wpAny_bind (wpAny_setField ha hd s3 (wpAny_setField ha3 hd3 s4 ?_)))))
  first
  | exact rest
  | (dsimp only; exact rest)
  | (refine wpAny_pure ?_; exact rest)
  | (simp only [bind_pure_comp] ; exact rest)
/-- raise X(..) from n, in an except suite whose exception n names -/
theorem ps_raiseHF {X : Cx} {W : WX} {e : Expr} {t : L2.St → Hp → XK → Prop} {a C : Addr} {oe : Obj} {vs0 : Array Value} {nm : Str} {i : Nat} {cpos pos : Pos} (hp : (a, oe) ∈ X.pn) (hh : X.A.handled = some (.ref a)) (hcl : oe.cls = .ref C) (hd0 : oe.data = .fields vs0) (hc0 : vs0[2]? = some .none)
    (hsub : PySem.W.subIn X.K (.ref C) (.type "BaseException") = some true) (tk : L2.Takes X W) (he : PMk5 X e t) (hN : X.N[i]? = some nm) (hl : X.env.kindOf nm = some .local) (hdb : (nm == ("__debug__" : Str)) = false := by decide) :
    PS X (.Raise (some e) (some (.Name nm cpos)) pos) (fun _ σ H => σ[i]? = some (some (.ref a)) ∧ t σ H fun cls d H' => W cls d σ H') := by
  refine ⟨fun pins s σ H D I h => ?_⟩
  obtain ⟨hσ, h⟩ := h
  show wpAny _ _ (do standAt pos; raiseStmt X.env (some (do let v ← eval e X.env; standAt pos; pure v)) (some (do let v ← eval (.Name nm cpos) X.env; standAt pos; pure v))) _ _ _
  refine wpAny_bind (wpAny_standAt (raise_made_hotF (x1 := a) (wpAny_bind (wpAny_mono (he pins s σ H _ I h) (fun u s1 hu => wpAny_bind (wpAny_standAt (wpAny_pure ?_))) fun _ _ x => x))))
  obtain ⟨⟨b, ob, vs, sI, H', cls, d, rfl, J, k, hne, ha, hz, hd, h1, na, os, ag, r, q⟩, h5⟩ := hu
  have hi : 4 < vs.size := h5 b ob vs rfl ha hd
  have k4 : ∀ b' u, sI.heap.get? b' = some u → (causeFrom s1.heap b (.ref a)).get? b' = some u := fun b' u z => by
    have nab : b ≠ b' := fun y => by
      rw [← y, hne] at z
      cases z
    rw [causeFrom_other nab]
    exact k b' u z
  obtain ⟨r1, _⟩ := r (model X.prog X.w) s1.heap (J.kIn.keeps k)
  obtain ⟨_, r2⟩ := r (model X.prog X.w) (causeFrom s1.heap b (.ref a)) (J.kIn.keeps k4)
  have P1 : sI.heap.get? a = some oe := (J.pin (a, oe) (List.mem_append_left _ hp)).1
  have nap : a ≠ b := fun z => by
    rw [z, hne] at P1
    cases P1
  have P2 := k _ _ P1
  obtain ⟨ha4, hd4⟩ := causeFrom_at (c := .ref a) ha hd
  have h12 : (((vs.setIfInBounds 3 (Value.ref a)).setIfInBounds 4 (Value.bool true)).setIfInBounds 2 (Value.ref a))[1]? = some Value.none := set_other (by decide) (set_other (by decide) (set_other (by decide) h1))
  have LA : PySem.W.Looks (model X.prog X.w) s1.heap (typeOf (.ref a)) (.ref C) := fun A Q E s k q => wpAny_typeOf_ref (k _ _ P2) (by rw [hcl]; exact q)
  refine ⟨b, ob, vs, cls, rfl, ha, hz.1, hd, h1, hi, nap, ⟨hh, oe, vs0, P2, hd0, hc0⟩, r1, r2, fun Q' q' => ?_, LA.andThen (PySem.W.looks_subIn (J.kIn.keeps k) hsub), tk _ _ (XE.new J (fun b' u z => ?_) hne (Heap.get?_update_self _ ha4 (Obj.isFreed_of_fields (Obj.data_mapFields hd4 _)))
    ⟨by rw [Obj.cls_mapFields, Obj.cls_mapFields, Obj.cls_mapFields]; exact hz.1, by rw [HandSPX.dict_mapFields, HandSPX.dict_mapFields, HandSPX.dict_mapFields]; exact hz.2.1⟩ (Obj.data_mapFields hd4 _) h12 na os ag q)⟩
  · obtain ⟨m, hn, hlk⟩ := J.loc
    obtain ⟨u, ru, l⟩ := hlk i nm (.ref a) hN hσ (.inl hl)
    obtain rfl : u = Value.ref a := ru
    have hn1 : s1.heap.Ns X.env.locals m := by
      obtain ⟨o, es, ep, q1, q2⟩ := hn
      exact ⟨o, es, ep, k _ _ q1, q2⟩
    refine wpAny_bind ?_
    rcases l with ⟨hk, hm⟩ | ⟨hk, _⟩
    · exact wpAny_Name (wpAny_loadName_local J.ok.kind hk hn1 hm (wpAny_bind (wpAny_standAt (wpAny_pure q')))) hdb
    · have hl' : X.env.scope.names.lookup nm = some .local := hl
      rcases hk with hk | hk <;> (have hk' : X.env.scope.names.lookup nm = some _ := hk; rw [hl'] at hk'; cases hk')
  · have nab : b ≠ b' := fun y => by
      rw [← y, hne] at z
      cases z
    show ((causeFrom s1.heap b (.ref a)).update b (Obj.mapFields (·.setIfInBounds 2 (.ref a)))).get? b' = some u
    rw [Heap.get?_update_other _ _ nab]
    exact k4 b' u z
end DL

set_option maxHeartbeats 4000000
/-! EX6: on data: try .. except X as n where the suite may raise; raise .. from n. -/
namespace DL
open PySem L2 NdefX PyProof.Rows L2H
/-- the suite's meaning: the exception in slot i, behind it nothing; what it lets out flies on -/
def hndX (i : Nat) (c : Nat) (d : D) (mh : M Fl) : M Fl := fun ρ => match setS ρ i .no with
  | some ρ1 => if ρ1.all notHnd = true then (match mh (ρ1.set i (.hnd c d)) with
    | .ok fl ρ2 => if ioAt ρ2 i = false ∧ (ρ2.set i .no).all notHnd = true then (match fl with
      | .rt s => if notHnd s = true then .ok (.rt s) (ρ2.set i .no) else .bad
      | fl => .ok fl (ρ2.set i .no)) else .bad
    | .exc c' d' ρ2 => if ioAt ρ2 i = false ∧ (ρ2.set i .no).all notHnd = true then .exc c' d' (ρ2.set i .no) else .bad
    | .bad => .bad) else .bad
  | none => .bad
def sTryX (i : Nat) (ecs : List Nat) (isx : Nat → Bool) (mb : M Fl) (mh : Nat → M Fl) : M Fl := fun ρ => match mb ρ with
  | .exc c d ρ1 => if c ∈ ecs then (if isx c = true then hndX i c d (mh c) ρ1 else .exc c d ρ1) else .bad
  | r => r
def WxS (Wx : WX) (i : Nat) : WX := fun cls d σ H => Wx cls d (σ.set i none) H
section
variable {X : Cx} {adr : AdrT} {Wx : WX} {x n : Str} {body suite : List Stmt} {b₀ : Stmt} {np pos pos' : Pos} {mb : M Fl} {mh : Nat → M Fl}
theorem ds_tryX (i : Nat) (ecs : List Nat) (isx : Nat → Bool) {cv : Value} (hs : X.stack = X.env :: X.outer) (hf : X.env.frame = some X.env.locals) (hN : X.N.Nodup) (hi : X.N[i]? = some n) (hln : X.env.kindOf n = some .local) (hc : Names X x cv)
    (hpa : ∀ hd : Option Value, PassesOwnAt (model X.prog X.w) (X.A.mark hd) X.A X.env X.xe) (tk : L2.Takes X Wx)
    (hex : ∀ c ∈ ecs, PySem.W.exmOne X.K (.ref (adr c)) cv = some (isx c))
    (hb : ∀ (W' : WX) (pn : List (Addr × Obj)) (xe : Value → Shared → Prop), TK true (X.tr pn xe) W' → PassesOwn (model X.prog X.w) X.A X.env xe → DSs (X.tr pn xe) adr W' body mb)
    (hsu : ∀ (a y : Addr) (oe : Obj) (c : Nat) (pn : List (Addr × Obj)) (xe : Value → Shared → Prop), L2N.Zn (.ref (adr c)) (some y) oe → (∃ vs, oe.data = .fields vs) → c ∈ ecs → isx c = true → L2.Takes (suiteY X a ((a, oe) :: pn) xe) (WxS Wx i) → HotC (suiteY X a ((a, oe) :: pn) xe) →
      DSs (suiteY X a ((a, oe) :: pn) xe) (adr.at [(a, y, c)]) (WxS Wx i) (b₀ :: suite) (mh c)) :
    DS X adr Wx (.Try body [.ExceptHandler (some (.Name x np)) (some n) (b₀ :: suite) pos'] [] [] pos) (sTryX i ecs isx mb mh) := by
  refine ⟨_, ps_try_asX (i := i) (tb := fun W' => cS X.K adr W' mb)
    (ts := fun a cls d D σ H => ∃ (W : Wd) (ρ : List Slot) (F : Hp) (c : Nat) (y : Addr), cls = .ref (adr c) ∧ d = some y ∧ c ∈ ecs ∧ isx c = true ∧ W.K = X.K ∧ W.adr = adr.at [(a, y, c)] ∧ ERel W σ ρ F H ∧ Po W F (WxS Wx i) (GS W D) (mh c ρ))
    hs hf hN hi hln hc hpa tk (fun W' pn xe tk' pa => dss_canon (hb W' pn xe tk' pa)) (fun a oe cls d pn xe hz hfl htk hot => ⟨fun pins s σ H D I ⟨W, ρ, F, c, y, e1, e2, e3, e4, e5, e6, R, po⟩ => ?_⟩), fun W σ ρ F H E i' R p => ?_⟩
  · subst e1 e2
    exact (dss_canon (hsu a y oe c pn xe hz hfl e3 e4 htk hot)).run pins s σ H D I ⟨W, ρ, F, e5, e6, R, po⟩
  · refine ⟨W, ρ, F, i'.k, i'.a, R, ?_⟩
    unfold sTryX at p
    cases e : mb ρ with
    | bad => rw [e] at p; exact p
    | ok fl ρ1 => rw [e] at p; exact p
    | exc c d ρ1 =>
      rw [e] at p
      dsimp only at p
      by_cases hce : c ∈ ecs
      · rw [if_pos hce] at p
        intro σ' cls dx F' H' s R' xr
        obtain ⟨rfl, y, v, rfl, hx, r⟩ := xr
        rw [i'.a]
        refine ⟨isx c, hex c hce, fun hb1 a na => ?_, fun hb0 => ?_⟩
        · rw [if_pos hb1] at p
          unfold hndX at p
          cases es : setS ρ1 i .no with
          | none => rw [es] at p; exact p.elim
          | some ρ1' =>
            rw [es] at p
            obtain ⟨rfl, hl, hio⟩ := setS_some es
            dsimp only at p
            by_cases hn : (ρ1.set i .no).all notHnd = true
            · rw [if_pos hn] at p
              obtain ⟨w, R'⟩ := R'
              have R1 := R'.leave (some (.ref a)) hio hl
              have hσ : i < σ'.length := by rw [R'.len]; exact hl
              have R2 := R1.hold (i := i) (a := a) (x := y) (c := c) (d := d) (by rw [List.getElem?_set_self hl]) hn (by rw [List.getElem?_set_self hσ]) hx r
              refine ⟨W.at [(a, y, c)], _, F', c, y, rfl, rfl, hce, hb1, i'.k, by show W.adr.at _ = _; rw [i'.a], ⟨_, R2⟩, ?_⟩
              cases em : mh c ((ρ1.set i .no).set i (.hnd c d)) with
              | bad => rw [em] at p; exact p
              | exc c' d' ρ2 =>
                rw [em] at p
                dsimp only at p
                by_cases hk : ioAt ρ2 i = false ∧ (ρ2.set i .no).all notHnd = true
                · rw [if_pos hk] at p
                  intro σ2 cls2 dx2 F2 H2 s2 R3 xr2
                  obtain ⟨q1, q2, q3, q4, q5, q6⟩ := xr2
                  exact p _ cls2 dx2 F2 H2 (s.trans s2) (hnd_out R3 hk.1 hk.2 none) ⟨q1, q2, q3, q4, q5, (Rep.at _ _).mpr q6⟩
                · rw [if_neg hk] at p; exact p.elim
              | ok fl ρ2 =>
                rw [em] at p
                intro F2 H2 s2
                dsimp only at p
                by_cases hk : ioAt ρ2 i = false ∧ (ρ2.set i .no).all notHnd = true
                · rw [if_pos hk] at p
                  cases fl with
                  | nx => exact fun σ2 R3 => p F2 H2 (s.trans s2) _ (hnd_out R3 hk.1 hk.2 none)
                  | bk => exact fun σ2 R3 => p F2 H2 (s.trans s2) _ (hnd_out R3 hk.1 hk.2 none)
                  | ct => exact fun σ2 R3 => p F2 H2 (s.trans s2) _ (hnd_out R3 hk.1 hk.2 none)
                  | rt s3 =>
                    dsimp only at p
                    by_cases hs3 : notHnd s3 = true
                    · rw [if_pos hs3] at p
                      intro σ2 v2 R3 n1 n2
                      have hl2 := ERel.len2 R3
                      have hi2 := (ioAt_f hk.1).1
                      have R4 := hnd_out (i := i) R3 (by unfold ioAt at hk ⊢; rw [List.getElem?_append_left hi2]; exact hk.1) (by rw [List.set_append_left _ _ hi2, List.all_append, hk.2]; simpa using hs3) none
                      rw [List.set_append_left _ _ hi2, List.set_append_left _ _ (by omega)] at R4
                      exact p F2 H2 (s.trans s2) _ v2 R4 n1 n2
                    · rw [if_neg hs3] at p; exact p.elim
                · rw [if_neg hk] at p; exact p.elim
            · rw [if_neg hn] at p; exact p.elim
        · rw [if_neg (by rw [hb0]; exact Bool.false_ne_true)] at p
          rw [← i'.a]
          exact p σ' _ _ F' H' s R' ⟨rfl, y, v, rfl, hx, r⟩
      · rw [if_neg hce] at p; exact p.elim
end
/-- raise C(e) from n, n in slot i -/
def sRaiseF (i c : Nat) (ms : M (List D)) : M Fl := fun ρ => match ρ[i]? with
  | some (.hnd _ _) => sRaise c ms ρ
  | _ => .bad
section
variable {X : Cx} {adr : AdrT} {Wx : WX} {pos p p2 cpos : Pos} {x nm : Str} {e : Expr} {D f : Addr}
theorem ds_raiseF (i c : Nat) {ms : M (List DL.D)} {a y C : Addr} {c0 : Nat} {oe : Obj} {vs0 : Array Value} (hp : (a, oe) ∈ X.pn) (hh : X.A.handled = some (.ref a)) (hcl : oe.cls = .ref C) (hd0 : oe.data = .fields vs0) (hc0 : vs0[2]? = some .none)
    (hsub : PySem.W.subIn X.K (.ref C) (.type "BaseException") = some true) (tk : L2.Takes X Wx) (EF : ExF X.prog X.w X.K X.mg X.base D f) (EK : ExK X.K X.mg (adr c) D f x) (hr : L2H.RoomH 2 X.A) (hot : HotC X) (ha : DA X adr Wx [e] ms) (hax : adr.hx = [(a, y, c0)])
    (hN : X.N[i]? = some nm) (hl : X.env.kindOf nm = some .local) (hg : Gl X x := by rfl) (hdn : (nm == ("__debug__" : Str)) = false := by decide)
    (hdb : (x == ("__debug__" : Str)) = false := by decide) (he : starEach [e] X.env = (false, eval e X.env) :: starEach [] X.env := by rfl) (hpl : (backTo p2 (starEach [] X.env)).any (·.1) = false := by rfl) :
    DS X adr Wx (.Raise (some (.Call (.Name x p) [e] [] p2)) (some (.Name nm cpos)) pos) (sRaiseF i c ms) := by
  obtain ⟨t, pt, q⟩ := ha
  obtain ⟨fd, _, F1, bd, _⟩ := EF.fn
  refine ⟨_, ps_raiseHF hp hh hcl hd0 hc0 hsub tk (pmk5_oexH (pos := p2) EK.s.oex EK.i EF.ty (F1 (L2.CX X.prog X.w)) hr hot bd (L2.passes_call (X := X) (W := Wx) tk (E := fun _ _ _ => False) fun _ _ _ _ z => z.elim) hg EK.g pt hdb he hpl) hN hl hdn, fun W σ ρ F H E i' R p => ?_⟩
  unfold sRaiseF at p
  cases es : ρ[i]? with
  | none => rw [es] at p; exact p.elim
  | some s =>
    rw [es] at p
    cases s with
    | hnd c1 d1 =>
      dsimp only at p
      have hσ : σ[i]? = some (some (.ref a)) := by
        obtain ⟨w, R0⟩ := R
        obtain ⟨ov, h1, a', y', v', rfl, h3, _⟩ := R0.slots i _ es
        rw [i'.a, hax, List.mem_singleton] at h3
        cases h3
        exact h1
      refine ⟨hσ, q W σ ρ F H _ i' R (p.bind.imp fun l ρ1 F1 H1 s1 p vs R1 r1 => ?_)⟩
      match l, p with
      | [d], p =>
        obtain ⟨v, _, rfl, r, rfl⟩ := r1
        exact mkO_sem (G := fun cls d H' => Wx cls d σ H') i' EK.s R1 r fun y F' H' s R2 hy r2 => p σ _ _ _ _ s R2 ⟨by rw [i'.a], y, v, rfl, hy, r2⟩
    | _ => exact p.elim
end
end DL

set_option maxHeartbeats 4000000
/-! EX7: in an except suite: n.value, isinstance(n, C), for an exception that bears a dict. -/
namespace DL
open PySem PySem.W PySem.Spec PySem.Calls PyProof.Rows
section
variable {prog : Program} {w : World} {A : Around} {E : Value → Shared → Prop} {s : Shared} {K : Frag} {x D : Addr} {ox od : Obj}
theorem kin_classED {Q : Option Value → Shared → Prop} (hga : findIn K (.ref D) "__getattribute__" = some (some (.builtin "BaseException.__getattribute__"))) (hgt : findIn K (.ref D) "__getattr__" = some none) (hsub : subIn K (.ref D) (.type "BaseException") = some true)
    (hdct : hasDictIn K D = true) (ha : findIn K (.ref D) "__class__" = some (some (.builtin "object.__class__")))
    (hn : specialIn K (.builtin "object.__class__") "__get__" = some (some (.builtin "getset_descriptor.__get__"))) (htk : takesIn K (.builtin "object.__class__") = some true) (hm : mroIn K D (.type "object") = some true)
    (X : K.In s.heap) (I : InstAt s.heap x ox D (some od)) (h : Q (some (.ref D)) { s with toks := s.toks + 1 }) : wpAny (model prog w) A (getAttr? (.ref x) "__class__") Q E s := by
  have hf : findObj K D (some od) "__class__" = some (.bind (.builtin "getset_descriptor.__get__") (.builtin "object.__class__")) := findObj_data (by obtain ⟨cd, hc, _⟩ := any_some hdct; rw [hc]; rfl) ha hn htk
  obtain ⟨hp, g, d, t, os⟩ := s
  have L0 := I.type (M := model prog w)
  have L1 := looks_findIn (M := model prog w) X hga
  have L2 := looks_findIn (M := model prog w) X hgt
  have L3 := looks_find (M := model prog w) X I hf
  have sub : Looks (model prog w) hp (isInstance (.ref x) (.type "BaseException")) true := L0.andThen (looks_subIn X hsub)
  have hx0 : (false && onTheHeap (Value.builtin "BaseException.__getattribute__")) = false := rfl
  have hx2 : (Value.builtin "BaseException.__getattribute__" == Value.builtin "object.__getattribute__") = false := by decide +kernel
  have hx1 : (onTheHeap (Value.ref D) && Value.builtin "BaseException.__getattribute__" == Value.builtin "object.__getattribute__") = false := by rw [hx2]; rfl
  unfold getAttr? getAttrBy? getAttrBy
  refine wpAny_bind (wpAny_mkText (wpAny_bind (wpAny_attempt (wpAny_holding (wpAny_bind (L0.at (wpAny_bind (L1.at ?_))))))))
  show wpAny _ _ (if (onTheHeap (Value.ref D) && Value.builtin "BaseException.__getattribute__" == Value.builtin "object.__getattribute__") = true then _ else _) _ _ _
  rw [hx1, if_neg Bool.false_ne_true]
  unfold getAttrByItsOwn hookBefore
  refine wpAny_bind ?_
  rw [if_pos (show onTheHeap (Value.ref D) = true from rfl)]
  refine L2.at ?_
  refine wpAny_bind (wpAny_attempt (wpAny_holding ?_))
  unfold callGetattribute
  rw [hx0, if_neg Bool.false_ne_true]
  unfold boundAndCalled
  rw [PySem.F.excAttr_ValueError.ga.bind (.ref x)]
  refine wpAny_bind (wpAny_pure ?_)
  show wpAny _ _ (call (.builtin "BaseException.__getattribute__") [.ref x, .str "__class__" t]) _ _ _
  refine wpAny_call (codeAny_call_builtin PySem.F.excAttr_ValueError.ga.plain PySem.F.entry_bexc_ga ?_)
  refine @check_slot (model prog w) _ _ ⟨hp, g, d, t + 1, os⟩ "BaseException.__getattribute__" "BaseException" "__getattribute__" (.ref x) [.str "__class__" t] [] _ (by decide +kernel) (by decide +kernel) sub (PySem.F.args_bexc_ga (.ref x) (.str "__class__" t)) ?_
  unfold Builtin.«object.__getattribute__»
  refine wpAny_bind (wpAny_of_eq (a := ((Value.ref x : Value), [Value.str "__class__" t])) (by first | rfl | (simp only [slotArgs]; rfl)) ?_)
  refine wpAny_bind (wpAny_pure (wpAny_bind (L0.at (wpAny_bind (L3.at ?_)))))
  show wpAny _ _ (holding [Value.builtin "object.__class__"] (call (.builtin "getset_descriptor.__get__") [.builtin "object.__class__", .ref x, .ref D]) >>= ret) _ _ _
  refine wpAny_bind (wpAny_holding (wpAny_call (class_get (s := ⟨hp, g, d, t + 1, os⟩) (ox := ox) (od := some od) X I hm ?_)))
  refine wpAny_pure ?_
  show wpAny _ _ (handedOut (.ref D)) _ _ _
  rw [handedOut_of (v := .ref D) rfl]
  first
    | exact wpAny_pure (wpAny_pure h)
    | exact wpAny_pure h
    | exact wpAny_pure (wpAny_bind (wpAny_pure (wpAny_pure h)))
theorem kitx_excD (hga : findIn K (.ref D) "__getattribute__" = some (some (.builtin "BaseException.__getattribute__"))) (hgt : findIn K (.ref D) "__getattr__" = some none) (hsub : subIn K (.ref D) (.type "BaseException") = some true) (hdct : hasDictIn K D = true) (ha : findIn K (.ref D) "__class__" = some (some (.builtin "object.__class__")))
    (hn : specialIn K (.builtin "object.__class__") "__get__" = some (some (.builtin "getset_descriptor.__get__"))) (htk : takesIn K (.builtin "object.__class__") = some true) (hm : mroIn K D (.type "object") = some true) :
    KitX K (.ref x) (.ref D) (fun h => InstAt h x ox D (some od)) where
  ty := fun _ _ _ I => I.type
  it := fun _ _ X _ => by
    obtain ⟨cdD, hcD, _⟩ := any_some hdct
    unfold clsIn at hcD
    split at hcD
    · rename_i c' d' cd' sl' ho
      intro A' Q' E' s' k q
      unfold isType loadHead
      exact wpAny_bind (wpAny_loadPart (k _ _ (X _ _ ho)) (wpAny_pure q))
    · cases hcD
  ne := fun h tp dd its n sl X htp => by
    obtain ⟨cdD, hcD, _⟩ := any_some hdct
    refine Bool.eq_false_iff.mpr fun q => ?_
    have e : D = tp := Value.ref.inj (beq_iff_eq.mp q)
    subst e
    unfold clsIn at hcD
    split at hcD
    · rename_i c' d' cd' sl' ho
      have z := (X _ _ ho).symm.trans htp
      cases z
    · cases hcD
  ca := fun X I k => kin_classED hga hgt hsub hdct ha hn htk hm X I k
end
end DL
namespace DL
open PySem L2 NdefX PyProof.Rows
/-- isinstance(n, c), n the exception that the suite holds -/
def rIsED (K : PySem.W.Frag) (D a y : Addr) : List V → Hp → VK → Prop := fun xs H Q => ∃ (c : V) (cv : Value) (b : Bool) (fs : List (Str × V)), xs = [.ref a, c] ∧ H y = some (.xd fs) ∧ (∀ u, RelV c u → u = cv) ∧ PySem.W.kitOne K (.ref D) cv = some b ∧ Q (.bl b) H
theorem call_isED {X : Cx} {a y D : Addr} {oe : Obj} {pn : List (Addr × Obj)} (C : ExcC X.K D) (hz : Zc (.ref D) (some y) oe) (hf : ∃ vs, oe.data = .fields vs) : CallR (X.suite a ((a, oe) :: pn)) (.builtin "isinstance") (rIsED X.K D a y) := by
  intro pins s σ H xs us Q I r h
  obtain ⟨c, cv, b, fs, rfl, hy, hcv, e, q⟩ := h
  cases r with
  | cons rx rr =>
    cases rr with
    | cons rt rr =>
      cases rr
      cases rx
      have ec := hcv _ rt
      subst ec
      obtain ⟨hget, _⟩ := I.pin (a, oe) (List.mem_append.mpr (.inl List.mem_cons_self))
      obtain ⟨vs, hv⟩ := hf
      have hx : ObjOk X.prog X.w H s.heap y (.xd fs) := I.hok y _ hy
      obtain ⟨mA, hns, hr⟩ := hx
      obtain ⟨od, ho, hl⟩ := lookIn_ns hns
      have J : PySem.W.InstAt s.heap a oe D (some od) := ⟨hget, hz.1, by unfold PySem.W.notCls; rw [hv] <;> rfl, by rw [hz.2]; exact ho⟩
      exact PySem.W.kia_one (kitx_excD C.hg C.hk C.hs C.hd C.ha C.hn C.ht C.hm) I.kIn J e (fun z => nomatch z) fun tk => ⟨.bl b, H, I.kept (t' := tk) fun _ _ z => z, rfl, q⟩
/-! ### on data -/
def eExV (i : Nat) : M D := fun ρ => match ρ[i]? with
  | some (.hnd _ d) => .ok d ρ
  | _ => .bad
def eExIs (i : Nat) (f : Nat → Bool) : M D := fun ρ => match ρ[i]? with
  | some (.hnd c _) => .ok (.bl (f c)) ρ
  | _ => .bad
section
variable {X : Cx} {adr : AdrT} {pos p1 p p2 : Pos} {a y : Addr} {c : Nat} {oe : Obj} {pn : List (Addr × Obj)}
theorem hnd_at {W : Wd} {σ : List (Option V)} {ρ : List Slot} {F H : Hp} {i c1 : Nat} {d1 : D} (hx : W.adr.hx = [(a, y, c)]) (R : ERel W σ ρ F H) (es : ρ[i]? = some (.hnd c1 d1)) : c1 = c ∧ σ[i]? = some (some (.ref a)) ∧ ∃ v, F y = some (.xd [(("value" : Str), v)]) ∧ Rep W.K W.adr F d1 v := by
  obtain ⟨w, R0⟩ := R
  obtain ⟨ov, h1, a', y', v', rfl, h3, h4, h5⟩ := R0.slots i _ es
  rw [hx, List.mem_singleton] at h3
  cases h3
  exact ⟨rfl, h1, v', h4, h5⟩
theorem de_exV (i : Nat) {n : Str} (hx : adr.hx = [(a, y, c)]) (T : XfC X.K (adr c)) (hno : PySem.W.findIn X.K (.ref (adr c)) "value" = some none) (hz : Zc (.ref (adr c)) (some y) oe) (hf : ∃ vs, oe.data = .fields vs)
    (hN : X.N[i]? = some n := by rfl) (hv : Vis X.env.scope n := by first | exact Or.inl rfl | exact Or.inr (Or.inl rfl) | exact Or.inr (Or.inr rfl)) (hd : (n == ("__debug__" : Str)) = false := by decide)
    (hcd : (n == ("__classdict__" : Str)) = false := by decide) (hb : attributeBase (.Name n p1) "value" X.env (eval (.Name n p1) X.env) = eval (.Name n p1) X.env := by rfl) :
    DE (X.suite a ((a, oe) :: pn)) adr WxN (.Attribute (.Name n p1) "value" pos) (eExV i) := by
  refine ⟨_, pe_xf (n := "value") T hno hz hf (pe_var (X := X.suite a ((a, oe) :: pn)) (i := i) hN hv hd hcd) hb, fun W σ ρ F H Q i' R p => ?_⟩
  unfold eExV at p
  cases es : ρ[i]? with
  | none => rw [es] at p; exact p.elim
  | some s =>
    rw [es] at p
    cases s with
    | hnd c1 d1 =>
      obtain ⟨rfl, h1, v, h4, h5⟩ := hnd_at (by rw [i'.a]; exact hx) R es
      exact ⟨_, h1, rfl, rfl, y, _, v, rfl, R.sub _ _ h4, by simp [List.lookup], p F H (Same.refl _) v R h5⟩
    | _ => exact p.elim
theorem de_exIs (i : Nat) (f : Nat → Bool) {n x : Str} {cv : Value} {cV : V} (hx : adr.hx = [(a, y, c)]) (C : ExcC X.K (adr c)) (hz : Zc (.ref (adr c)) (some y) oe) (hf : ∃ vs, oe.data = .fields vs)
    (hy : PE (X.suite a ((a, oe) :: pn)) (.Name x p2) (tC cV)) (hcv : ∀ u, RelV cV u → u = cv) (hk : PySem.W.kitOne X.K (.ref (adr c)) cv = some (f c)) (hm : X.mg "isinstance" = none) (hg : Gl X "isinstance" := by rfl)
    (hN : X.N[i]? = some n := by rfl) (hv : Vis X.env.scope n := by first | exact Or.inl rfl | exact Or.inr (Or.inl rfl) | exact Or.inr (Or.inr rfl)) (hd : (n == ("__debug__" : Str)) = false := by decide)
    (hcd : (n == ("__classdict__" : Str)) = false := by decide)
    (he : starEach [.Name n p1, .Name x p2] X.env = (false, eval (.Name n p1) X.env) :: starEach [.Name x p2] X.env := by rfl) (he2 : starEach [.Name x p2] X.env = (false, eval (.Name x p2) X.env) :: starEach [] X.env := by rfl) (hpl : (backTo pos (starEach [.Name x p2] X.env)).any (·.1) = false := by rfl) :
    DE (X.suite a ((a, oe) :: pn)) adr WxN (.Call (.Name "isinstance" p) [.Name n p1, .Name x p2] [] pos) (eExIs i f) := by
  refine ⟨_, pe_callB (X := X.suite a ((a, oe) :: pn)) (call_isED C hz hf) hg hm PyProof.Rows.Boot.isinstance (pa_cons (pe_var (X := X.suite a ((a, oe) :: pn)) (i := i) hN hv hd hcd) (pa_cons hy pa_nil he2) he) (by decide) (by decide) he hpl, fun W σ ρ F H Q i' R p => ?_⟩
  unfold eExIs at p
  cases es : ρ[i]? with
  | none => rw [es] at p; exact p.elim
  | some s =>
    rw [es] at p
    cases s with
    | hnd c1 d1 =>
      obtain ⟨rfl, h1, v, h4, h5⟩ := hnd_at (by rw [i'.a]; exact hx) R es
      exact ⟨_, h1, cV, cv, f c1, _, rfl, R.sub _ _ h4, hcv, hk, p F H (Same.refl _) _ R rfl⟩
    | _ => exact p.elim
end
/-! ### == by the room alone -/
section
variable {X : Cx} {adr : AdrT} {Wx : WX} {pos : Pos} {a b : Expr} {ma mb : M D}
theorem de_neU (hu : X.A.units + 64 < cLine) (ha : DE X adr Wx a ma) (hb : DE X adr Wx b mb) (hm : behindInMarks .NotEq b = false := by with_unfolding_all rfl) : DE X adr Wx (.Compare a [.NotEq] [b] pos) (e2 fNe ma mb) := de_cmp (op_neD hu) op2_ne ha hb hm
theorem dt_neU (hu : X.A.units + 64 < cLine) (ha : DE X adr Wx a ma) (hb : DE X adr Wx b mb) (hm : behindInMarks .NotEq b = false := by with_unfolding_all rfl) : DT X adr Wx (.Compare a [.NotEq] [b] pos) (bE (e2 fNe ma mb)) := dt_cmp (op_neD hu) op2_ne ha hb hm
theorem de_eqU (hu : X.A.units + 64 < cLine) (ha : DE X adr Wx a ma) (hb : DE X adr Wx b mb) (hm : behindInMarks .Eq b = false := by with_unfolding_all rfl) : DE X adr Wx (.Compare a [.Eq] [b] pos) (e2 fEq ma mb) := de_cmp (op_eqD hu) op2_eq ha hb hm
theorem dt_eqU (hu : X.A.units + 64 < cLine) (ha : DE X adr Wx a ma) (hb : DE X adr Wx b mb) (hm : behindInMarks .Eq b = false := by with_unfolding_all rfl) : DT X adr Wx (.Compare a [.Eq] [b] pos) (bE (e2 fEq ma mb)) := dt_cmp (op_eqD hu) op2_eq ha hb hm
end
end DL

set_option maxHeartbeats 4000000
/-! EX8: exceptions as data: C(x), C(value=x), e.value, isinstance(e, C). -/
namespace DL
open PySem L2 PyProof.Rows
section
variable {P : Program} {w : World} {H : Hp} {h : Heap} {a C x : Addr} {o o2 : HO} {v : V}
theorem isEx_inst (hok : HOk P w H h) (h1 : H a = some o) (e1 : IsEx a C x o) (h2 : H x = some o2) (e2 : IsXd x v o2) :
    ∃ (oe od : Obj) (mA : Str → Option Value) (u : Value), PySem.W.InstAt h a oe C (some od) ∧ (∀ n, PySem.W.lookIn n od = some (mA n)) ∧ mA ("value" : Str) = some u ∧ RelV v u := by
  obtain ⟨mA, hns, hr⟩ : ∃ mA, h.Ns1 x mA ∧ ∀ f, RelO (List.lookup f [(("value" : Str), v)]) (mA f) := by
    rcases e2 with e2 | e2
    · subst e2; exact exd_at hok h2
    · subst e2; exact hok x _ h2
  obtain ⟨od, ho, hl⟩ := lookIn_ns hns
  obtain ⟨u, hu, ru⟩ := RelO.some_of (v := v) (o := mA ("value" : Str)) (by have := hr ("value" : Str); simpa [List.lookup] using this)
  rcases e1 with e1 | ⟨oe, u1, e1, hz, vs, hd⟩
  · subst e1
    obtain ⟨t1, g1⟩ := exo_at hok h1
    exact ⟨_, od, mA, u, ⟨g1, rfl, rfl, ho⟩, hl, hu, ru⟩
  · subst e1
    have hx : h.get? a = some oe ∧ ObjOk P w H h a u1 := hok a _ h1
    exact ⟨oe, od, mA, u, ⟨hx.1, hz.1, by unfold PySem.W.notCls; rw [hd] <;> rfl, by rw [hz.2]; exact ho⟩, hl, hu, ru⟩
end
/-! ### e.value -/
def tXv (K : PySem.W.Frag) (te : TE) : TE := fun σ H Q => te σ H fun y H1 => ∃ (a C x : Addr) (o o2 : HO) (v : V), y = .ref a ∧ H1 a = some o ∧ IsEx a C x o ∧ H1 x = some o2 ∧ IsXd x v o2 ∧ XfC K C ∧ PySem.W.findIn K (.ref C) "value" = some none ∧ Q v H1
theorem pe_xv {X : Cx} {e : Expr} {te : TE} {pos : Pos} (he : PE X e te) (hb : attributeBase e "value" X.env (eval e X.env) = eval e X.env := by rfl) : PE X (.Attribute e "value" pos) (tXv X.K te) := by
  refine ⟨fun pins s σ H Q I h => ?_⟩
  refine attr_of hb (thn (he.run pins s σ H _ I h) fun u s1 hh => ?_)
  obtain ⟨y, H1, I1, rx, a, C, x, o, o2, v, ex, h1, e1, h2, e2, T, hno, q⟩ := hh
  subst ex
  obtain rfl : u = Value.ref a := rx
  obtain ⟨oe, od, mA, w, J, hl, hu, ru⟩ := isEx_inst I1.hok h1 e1 h2 e2
  exact HandSPX.exc_get I1.kIn J T.ga T.gg T.exC (PySem.W.findObj_own T.hdC hno rfl (by rw [hl, hu])) (handed_of ru) ⟨v, H1, I1.tok _, ru, q⟩
/-! ### isinstance(e, C) -/
open PySem PySem.W PySem.Spec PySem.Calls PyProof.Rows in
/-- isinstance over an exception among data -/
def rIsEx (K : PySem.W.Frag) : List V → Hp → VK → Prop := fun xs H Q => ∃ (a C x : Addr) (o o2 : HO) (v c : V) (cv : Value) (b : Bool), xs = [.ref a, c] ∧ H a = some o ∧ IsEx a C x o ∧ H x = some o2 ∧ IsXd x v o2 ∧ ExcC K C ∧
  (∀ u, RelV c u → u = cv) ∧ PySem.W.kitOne K (.ref C) cv = some b ∧ Q (.bl b) H
theorem call_isEx {X : Cx} : CallR X (.builtin "isinstance") (rIsEx X.K) := by
  intro pins s σ H xs us Q I r h
  obtain ⟨a, C, x, o, o2, v, c, cv, b, rfl, h1, e1, h2, e2, T, hcv, e, q⟩ := h
  cases r with
  | cons rx rr =>
    cases rr with
    | cons rt rr =>
      cases rr
      cases rx
      have ec := hcv _ rt
      subst ec
      obtain ⟨oe, od, mA, w, J, hl, hu, ru⟩ := isEx_inst I.hok h1 e1 h2 e2
      exact PySem.W.kia_one (kitx_excD T.hg T.hk T.hs T.hd T.ha T.hn T.ht T.hm) I.kIn J e (fun z => nomatch z) fun tk => ⟨.bl b, H, I.kept (t' := tk) fun _ _ z => z, rfl, q⟩
/-! ### C(x), C(value=x) -/
def tMkE (C : Addr) (sp : Sp) (ta : TA) : TE := fun σ H Q => ta σ H fun vs H1 => vs.length = 1 ∧ ∀ a, H1 a = none → sp (.ref a :: vs) (upd H1 a (exo a C none)) (fun v H2 => v = .non ∧ Q (.ref a) H2) (fun _ _ _ => False)
section
variable {X : Cx} {CX : CXT} {x : Str} {C fI : Addr} {k : Nat} {fd : FuncData} {sp : Sp} {e : Expr} {ta : TA} {p pos kpos : Pos}
theorem mkE_run {pins : List (Addr × Obj)} {σ : L2.St} {H : Hp} {s : Shared} {Q : VK} {us : List Value} {vs : List V} (T : OexC X.K C) (iC : PySem.W.findIn X.K (.ref C) "__init__" = some (some (.ref fI))) (tI : PySem.W.typeIn X.K (.ref fI) = some (.type "function"))
    (F1 : FnOk X.prog X.w X.K X.mg X.base CX k fI fd ["self", "value"] sp) (hr : Room (k + 1) X.A) (hb : Binds X.K fd ["self", "value"] []) (hx : Passes CX X (fun _ _ _ => False)) (I : Inv X pins σ H s) (r : Vals vs us)
    (hl1 : vs.length = 1) (h : ∀ a, H a = none → sp (.ref a :: vs) (upd H a (exo a C none)) (fun v H2 => v = .non ∧ Q (.ref a) H2) (fun _ _ _ => False)) :
    wpAny (model X.prog X.w) X.A (call (.ref C) us) (EP X pins σ Q) X.xe s := by
  obtain ⟨nm, q, N, bs, bm, sn, sub, ab, col, dd, k0, k1, k2, k3, k5, hC, hbm⟩ := T.cls
  obtain ⟨hp, g, dr, tk, os⟩ := s
  have hsz : hp.objs.size ≤ hp.objs.size + 1 := Nat.le_succ _
  have hn : H (hp.objs.size + 1) = none := I.hok.fresh hsz
  have hq := h (hp.objs.size + 1) hn
  have kk : ∀ b o, hp.get? b = some o → ((hp.push (PySem.W.kdv_tup us)).push (PySem.HandSPX.excO C hp.objs.size)).get? b = some o := fun b o e => Heap.get?_push_of_some _ (Heap.get?_push_of_some _ e)
  have hget : ((hp.push (PySem.W.kdv_tup us)).push (PySem.HandSPX.excO C hp.objs.size)).get? (hp.objs.size + 1) = some (PySem.HandSPX.excO C hp.objs.size) := by heap_get
  have I2 : Inv X pins σ (upd H (hp.objs.size + 1) (exo (hp.objs.size + 1) C none)) ⟨(hp.push (PySem.W.kdv_tup us)).push (PySem.HandSPX.excO C hp.objs.size), g, dr, tk, os⟩ :=
    I.laid (t' := tk) (a := hp.objs.size + 1) (o := exo (hp.objs.size + 1) C none) (h' := (hp.push (PySem.W.kdv_tup us)).push (PySem.HandSPX.excO C hp.objs.size)) kk hsz (exo_ok hget)
  have r2 : Vals (V.ref (hp.objs.size + 1) :: vs) (Value.ref (hp.objs.size + 1) :: us) := .cons rfl r
  have hl2 : us.length = 1 := by rw [← Paired.length r]; exact hl1
  have hus : us.length ≤ sizeLine := by
    rw [hl2, sizeLine_eq]; omega
  refine wpAny_call (PySem.HandSPX.call_own F.excBase_ValueError (fun Y => PySem.HandSPX.refsVE_contains Y bm hbm) (I.kIn _ _ hC) (PySem.W.looks_findIn I.kIn iC) (fun self => PySem.W.bind_fn I.kIn self tI) hus
    (codeAny_mono (F1.run _ X.stack _ _ ⟨Value.ref (hp.objs.size + 1) :: us, []⟩ (Value.ref (hp.objs.size + 1) :: us) _ _ (fun _ _ _ => False) (hr.make C us []) (I2.env0.make C us []) (by
      have z := hb _ (Value.ref (hp.objs.size + 1) :: us) I2.kIn (by simp [hl2])
      rw [List.append_nil] at z
      exact z) r2 hq) fun r s' hq' => ?_))
  cases r with
  | error er => exact hx pins σ _ _ er s' I2 hq'
  | ok fl =>
    cases fl with
    | ret u =>
      obtain ⟨v, H', I3, rv, ev, q3⟩ := I2.after hq'
      subst ev
      exact ⟨rv, ⟨V.ref (hp.objs.size + 1), H', I3, rfl, q3⟩⟩
    | next => exact False.elim hq'
    | brk => exact False.elim hq'
    | cont => exact False.elim hq'
theorem pe_mkE (T : OexC X.K C) (iC : PySem.W.findIn X.K (.ref C) "__init__" = some (some (.ref fI))) (tI : PySem.W.typeIn X.K (.ref fI) = some (.type "function"))
    (F1 : FnOk X.prog X.w X.K X.mg X.base CX k fI fd ["self", "value"] sp) (hr : Room (k + 1) X.A) (hb : Binds X.K fd ["self", "value"] []) (hx : Passes CX X (fun _ _ _ => False)) (hg : Gl X x) (hm : X.mg x = some (.ref C)) (ha : PA X [e] ta)
    (hdb : (x == ("__debug__" : Str)) = false := by decide) (he : starEach [e] X.env = (false, eval e X.env) :: starEach [] X.env := by rfl) (hpl : (backTo pos (starEach [] X.env)).any (·.1) = false := by rfl) :
    PE X (.Call (.Name x p) [e] [] pos) (tMkE C sp ta) := by
  refine ⟨fun pins s σ H Q I h => ?_⟩
  refine wpAny_Call_Name_kw (ld_glob I hg hm ?_ hdb)
  refine PySem.W.callWith_K (h₀ := X.base) I.ok.mod.kin T.kC (thn (ha.run pos pins s σ H _ I h) fun us s1 ⟨vs, H1, I1, r1, hz, q1⟩ => ⟨I1.kIn, ?_⟩) he hpl
  exact mkE_run T iC tI F1 hr hb hx I1 r1 hz q1
end
end DL

set_option maxHeartbeats 4000000
/-! EX8K: C(value=x) for an own exception. -/
namespace PySem
open PySem.Spec PyProof.Rows
namespace HandSPX
open Builtin Builtin.ObjectAttr
section
variable {prog : Program} {w : World} {A : Around} {E : Value → Shared → Prop} {R : Result → Shared → Prop} {h : Heap} {g : Array GenState} {d : Drawn} {t : Nat} {os : OsState}
variable {nm q : Str} {C N : Addr} {bs bm bmB : List Value} {hdct : Bool} {sn : List Str} {sub : List Value} {ab : Bool} {col : Option Bool} {dd : Option Addr} {k0 k1 k2 k3 k5 : Option Value} {B newId initId : String} {x : Str} {u : Value}
theorem dl_check_newK {M : Model} (F : ExcBaseFacts B newId initId bmB) (hT : ∀ X : String, bm.contains (.type X) = bmB.contains (.type X)) {Q : Unit → Shared → Prop}
    (hC : h.get? C = some (excClassObj nm q C N bs bm hdct sn sub ab col dd k0 k1 k2 k3 k5 newId)) (hq : Q () ⟨h, g, d, t, os⟩) : wpAny M A (checkBuiltinCall newId ⟨[.ref C], [(x, u)]⟩) Q E ⟨h, g, d, t, os⟩ := by
  have hcont : (Value.ref C :: bm).contains (.type B) = true := by rw [List.contains_cons, hT, F.hasB, Bool.or_true]
  have hstar := F.noStar
  simp only [checkBuiltinCall, F.newKind, F.newSplit, F.newRow]
  repeat (first | refine wpAny_loadPart_at hC ?_ | (refine wpAny_isSubtype_exc hC ?_; rw [hcont]) | refine wpAny_staticBase_exc hC ?_ | refine wpAny_madeBy_exc hC ?_ | simp only [bne_self_eq_false, Bool.false_eq_true, if_false] | wp_step)
  exact hq
theorem dl_newK (F : ExcBaseFacts B newId initId bmB) (hT : ∀ X : String, bm.contains (.type X) = bmB.contains (.type X))
    (hC : h.get? C = some (excClassObj nm q C N bs bm hdct sn sub ab col dd k0 k1 k2 k3 k5 newId))
    (hq : R (.ok (.ret (.ref (h.objs.size + 1)))) ⟨(h.push { cls := .type "tuple", data := .seq ([] : List Value).toArray }).push
      { cls := .ref C, data := .fields #[.ref h.objs.size, .none, .none, .none, .bool false, .none] }, g, d, t, os⟩) :
    codeAny (model prog w) A (.builtin newId ⟨[.ref C], [(x, u)]⟩) R ⟨h, g, d, t, os⟩ := by
  have hrest : ([] : List Value).length ≤ sizeLine := Nat.zero_le _
  have hends := F.ends
  have hcB : (Value.ref C :: bm).contains (.type B) = true := by rw [List.contains_cons, hT, F.hasB, Bool.or_true]
  have hcA : (Value.ref C :: bm).contains (.type "AttributeError") = false := by rw [List.contains_cons, hT, F.noAttr]; rfl
  have hcN : (Value.ref C :: bm).contains (.type "NameError") = false := by rw [List.contains_cons, hT, F.noName]; rfl
  refine codeAny_builtinAt F.entry ?_
  unfold Builtin.«BaseException.__new__»
  refine wpAt_bind ?_
  show wpAt _ _ _ (stack >>= _) _ _ _
  refine wpAt_bind (wpAt_stack fun p below => wpAt_of_wpAny ?_)
  wp_walk
  refine wpAt_of_wpAny ?_
  rw [F.owner]
  repeat (first | with_reducible refine wpAny_madeHere_exc F.canon hC ?_ | with_reducible refine wpAny_loadPart_at hC ?_ | (with_reducible refine wpAny_isSubtype_exc hC ?_; first | rw [hcB] | rw [hcA] | rw [hcN]) | wp_step)
  show R _ _
  rw [Heap.size_push]
  exact hq
theorem dl_type_callK (F : ExcBaseFacts B newId initId bmB) (hT : ∀ X : String, bm.contains (.type X) = bmB.contains (.type X)) {fI : Addr} {Q : Fin → Shared → Prop}
    (hC : h.get? C = some (excClassObj nm q C N bs bm hdct sn sub ab col dd k0 k1 k2 k3 k5 newId))
    (hi : W.Looks (model prog w) h (typeLookup (.ref C) "__init__") (some (.ref fI))) (hb : ∀ self, W.Looks (model prog w) h (bindSpecial (.ref fI) self) (.ref fI, [self]))
    (hq : codeAny (model prog w) A (.call (.ref fI) ⟨[.ref (h.objs.size + 1)], [(x, u)]⟩)
      (fun r s' => match r with | .ok (.ret v) => v = .none ∧ Q (.done (.ret (.ref (h.objs.size + 1)))) s' | .ok _ => False | .error e => E e s')
      ⟨(h.push (W.kdv_tup [])).push (excO C h.objs.size), g, d, t, os⟩) :
    wpAny (model prog w) A (Builtin.«type.__call__» ⟨[.ref C], [(x, u)]⟩) Q E ⟨h, g, d, t, os⟩ := by
  repeat (first | with_reducible refine wpAny_loadPart_at hC ?_ | with_reducible refine wpAny_madeBy_exc hC ?_ | wp_step)
  refine codeAny_call_builtin_code (Code.quiet_builtin _ F.quiet) (dl_check_newK F hT hC ?_)
  refine dl_newK F hT hC ?_
  show wpAny _ _ _ _ _ _
  have k : ∀ b o, h.get? b = some o → ((h.push (W.kdv_tup [])).push (excO C h.objs.size)).get? b = some o := fun b o e => Heap.get?_push_of_some _ (Heap.get?_push_of_some _ e)
  have hC₁ := k _ _ hC
  have hget : ((h.push (W.kdv_tup [])).push (excO C h.objs.size)).get? (h.objs.size + 1) = some (excO C h.objs.size) := by heap_get
  have hcC : (Value.ref C :: bm).contains (.ref C) = true := by simp
  have i1 := hi.keeps k
  have b1 := (hb (.ref (h.objs.size + 1))).keeps k
  unfold isInstance
  repeat (first | with_reducible refine wpAny_loadPart_at hget ?_ | (with_reducible refine wpAny_isSubtype_exc hC₁ ?_; rw [hcC]) | wp_step)
  show wpAny _ _ (typeLookup (.ref C) _) _ _ _
  refine i1.at ?_
  refine wpAny_holding (wpAny_bind (b1.at ?_))
  refine wpAny_bind (wpAny_call (codeAny_mono hq fun r s' z => ?_))
  rcases r with e | (v | _ | _ | _) <;> first | exact z | exact z.elim | skip
  obtain ⟨rfl, z⟩ := z
  first
    | exact wpAny_pure (wpAny_pure z)
    | (wp_walk; exact z)
theorem dl_check_typeK {M : Model} {Q : Unit → Shared → Prop} (hC : h.get? C = some (excClassObj nm q C N bs bm hdct sn sub ab col dd k0 k1 k2 k3 k5 newId)) (hq : Q () ⟨h, g, d, t, os⟩) :
    wpAny M A (checkBuiltinCall "type.__call__" ⟨[.ref C], [(x, u)]⟩) Q E ⟨h, g, d, t, os⟩ := by
  have f3 := tc_sub
  have hT : (⟨h, g, d, t, os⟩ : Shared).TypeIs (.ref C) "type" := ⟨_, hC, rfl⟩
  simp only [checkBuiltinCall, tc_kind, tc_split]
  repeat (any_goals (first | assumption | with_reducible refine wpAny_loadPart_at hC ?_ | with_reducible refine wpAny_onRaise ?_ | with_reducible refine wpAny_map ?_ | wp_step))
theorem dl_callK (F : ExcBaseFacts B newId initId bmB) (hT : ∀ X : String, bm.contains (.type X) = bmB.contains (.type X)) {fI : Addr}
    (hC : h.get? C = some (excClassObj nm q C N bs bm hdct sn sub ab col dd k0 k1 k2 k3 k5 newId))
    (hi : W.Looks (model prog w) h (typeLookup (.ref C) "__init__") (some (.ref fI))) (hb : ∀ self, W.Looks (model prog w) h (bindSpecial (.ref fI) self) (.ref fI, [self]))
    (hq : codeAny (model prog w) (A.under (.builtin "type.__call__" ⟨[.ref C], [(x, u)]⟩)) (.call (.ref fI) ⟨[.ref (h.objs.size + 1)], [(x, u)]⟩) (W.InitBack (h.objs.size + 1) R)
      ⟨(h.push (W.kdv_tup [])).push (excO C h.objs.size), g, d, t, os⟩) :
    codeAny (model prog w) A (.call (.ref C) ⟨[], [(x, u)]⟩) R ⟨h, g, d, t, os⟩ := by
  have f1 := tc_lookup
  have f2 := tc_bind (.ref C)
  have hTy : (⟨h, g, d, t, os⟩ : Shared).TypeIs (.ref C) "type" := ⟨_, hC, rfl⟩
  refine codeAny_of_tree ?_
  show wpAny _ _ (callAny (.ref C) _) _ _ _
  repeat (any_goals (first | assumption | with_reducible refine wpAny_loadPart_at hC ?_ | wp_step))
  refine ⟨rfl, ?_⟩
  refine codeAny_call_builtin_at (Code.quiet_builtin _ (by decide +kernel)) entry_typeCall (dl_check_typeK hC (dl_type_callK F hT hC hi hb ?_))
  refine codeAny_mono hq fun r s' z => ?_
  rcases r with e | (v | _ | _ | _) <;> exact z
end
end HandSPX
end PySem
namespace DL
open PySem L2 PyProof.Rows
section
variable {X : Cx} {CX : CXT} {x : Str} {C fI : Addr} {k : Nat} {fd : FuncData} {sp : Sp} {e : Expr} {ta : TA} {p pos kpos : Pos} {kws : List Keyword}
theorem mkEK_run {pins : List (Addr × Obj)} {σ : L2.St} {H : Hp} {s : Shared} {Q : VK} {u : Value} {vs : List V} (T : OexC X.K C) (iC : PySem.W.findIn X.K (.ref C) "__init__" = some (some (.ref fI))) (tI : PySem.W.typeIn X.K (.ref fI) = some (.type "function"))
    (F1 : FnOk X.prog X.w X.K X.mg X.base CX k fI fd ["self", "value"] sp) (hr : Room (k + 1) X.A) (hb : BindE fd) (hx : Passes CX X (fun _ _ _ => False)) (I : Inv X pins σ H s) (r : Vals vs [u])
    (h : ∀ a, H a = none → sp (.ref a :: vs) (upd H a (exo a C none)) (fun v H2 => v = .non ∧ Q (.ref a) H2) (fun _ _ _ => False)) :
    wpAny (model X.prog X.w) X.A (call (.ref C) [] [(("value" : Str), u)]) (EP X pins σ Q) X.xe s := by
  obtain ⟨nm, q, N, bs, bm, sn, sub, ab, col, dd, k0, k1, k2, k3, k5, hC, hbm⟩ := T.cls
  obtain ⟨hp, g, dr, tk, os⟩ := s
  have hsz : hp.objs.size ≤ hp.objs.size + 1 := Nat.le_succ _
  have hn : H (hp.objs.size + 1) = none := I.hok.fresh hsz
  have hq := h (hp.objs.size + 1) hn
  have kk : ∀ b o, hp.get? b = some o → ((hp.push (PySem.W.kdv_tup [])).push (PySem.HandSPX.excO C hp.objs.size)).get? b = some o := fun b o e => Heap.get?_push_of_some _ (Heap.get?_push_of_some _ e)
  have hget : ((hp.push (PySem.W.kdv_tup [])).push (PySem.HandSPX.excO C hp.objs.size)).get? (hp.objs.size + 1) = some (PySem.HandSPX.excO C hp.objs.size) := by heap_get
  have I2 : Inv X pins σ (upd H (hp.objs.size + 1) (exo (hp.objs.size + 1) C none)) ⟨(hp.push (PySem.W.kdv_tup [])).push (PySem.HandSPX.excO C hp.objs.size), g, dr, tk, os⟩ :=
    I.laid (t' := tk) (a := hp.objs.size + 1) (o := exo (hp.objs.size + 1) C none) (h' := (hp.push (PySem.W.kdv_tup [])).push (PySem.HandSPX.excO C hp.objs.size)) kk hsz (exo_ok hget)
  have r2 : Vals (V.ref (hp.objs.size + 1) :: vs) [Value.ref (hp.objs.size + 1), u] := .cons rfl r
  refine wpAny_call (PySem.HandSPX.dl_callK F.excBase_ValueError (fun Y => PySem.HandSPX.refsVE_contains Y bm hbm) (I.kIn _ _ hC) (PySem.W.looks_findIn I.kIn iC) (fun self => PySem.W.bind_fn I.kIn self tI)
    (codeAny_mono (F1.run _ X.stack _ _ ⟨[Value.ref (hp.objs.size + 1)], [(("value" : Str), u)]⟩ [Value.ref (hp.objs.size + 1), u] _ _ (fun _ _ _ => False) (hr.make C [] [(("value" : Str), u)]) (I2.env0.make C [] [(("value" : Str), u)]) (.of_eq (hb.2 _ _)) r2 hq) fun r s' hq' => ?_))
  cases r with
  | error er => exact hx pins σ _ _ er s' I2 hq'
  | ok fl =>
    cases fl with
    | ret u =>
      obtain ⟨v, H', I3, rv, ev, q3⟩ := I2.after hq'
      subst ev
      exact ⟨rv, ⟨V.ref (hp.objs.size + 1), H', I3, rfl, q3⟩⟩
    | next => exact False.elim hq'
    | brk => exact False.elim hq'
    | cont => exact False.elim hq'
theorem pe_mkEK (T : OexC X.K C) (iC : PySem.W.findIn X.K (.ref C) "__init__" = some (some (.ref fI))) (tI : PySem.W.typeIn X.K (.ref fI) = some (.type "function"))
    (F1 : FnOk X.prog X.w X.K X.mg X.base CX k fI fd ["self", "value"] sp) (hr : Room (k + 1) X.A) (hb : BindE fd) (hx : Passes CX X (fun _ _ _ => False)) (hg : Gl X x) (hm : X.mg x = some (.ref C)) (hkw : PK X kws ta)
    (hall : (backToKw pos (keywordEach kws X.env)).all (·.1.isSome) = true := by rfl) (hks : (backToKw pos (keywordEach kws X.env)).filterMap (·.1) = (["value"] : List Str) := by rfl) (hdb : (x == ("__debug__" : Str)) = false := by decide)
    (hpl : ((backTo pos (starEach [] X.env)).any (·.1) || (backToKw pos (keywordEach kws X.env)).any (·.1.isNone)) = false := by rfl) :
    PE X (.Call (.Name x p) [] kws pos) (tMkE C sp ta) := by
  refine ⟨fun pins s σ H Q I h => ?_⟩
  refine wpAny_Call_Name_kw (ld_glob I hg hm ?_ hdb)
  refine PySem.W.callWith_KW0 (h₀ := X.base) I.ok.mod.kin T.kC hall ?_ hpl
  refine thn (hkw.run pos pins s σ H _ I h) fun ws s2 ⟨zs, H2, I2, rz, hl1, q2⟩ => ⟨I2.kIn, ?_⟩
  rw [hks]
  have hl2 : ws.length = 1 := by rw [← Paired.length rz]; exact hl1
  match ws, hl2, rz with
  | [u], _, rz => exact mkEK_run T iC tI F1 hr hb hx I2 rz q2
end
/-! ### on data -/
def eMkE (c : Nat) (ms : M (List D)) : M D := fun ρ => (ms ρ).bind fun l ρ1 => match l with
  | [d] => .ok (.exn c d) ρ1
  | _ => .bad
def eMkEK (c : Nat) (m : M D) : M D := fun ρ => (m ρ).bind fun d ρ1 => .ok (.exn c d) ρ1
def fXv (ecs : List Nat) : D → Option D
  | .exn c d => if c ∈ ecs then some d else none
  | _ => none
def fExIs (ecs : List Nat) (f : Nat → Bool) : D → Option D
  | .exn c _ => if c ∈ ecs then some (.bl (f c)) else none
  | _ => none
section
variable {X : Cx} {adr : AdrT} {Wx : WX} {pos p p2 kpos : Pos} {x : Str} {e : Expr} {Dd f : Addr}
theorem mkE_data {c : Nat} {W : Wd} {σ : L2.St} {ρ1 : List Slot} {F1 H1 : Hp} {d : D} {v : V} {Q : VK} (i : In X adr W) (SC : SupC X.K Dd (adr c)) (R1 : ERel W σ ρ1 F1 H1) (r : Rep W.K W.adr F1 d v)
    (p : ∀ (F' H' : Hp), Same F1 F' → ∀ u, ERel W σ ρ1 F' H' → Rep W.K W.adr F' (.exn c d) u → Q u H') :
    ([v] : List V).length = 1 ∧ ∀ a, H1 a = none → spEI X.K Dd (.ref a :: [v]) (upd H1 a (exo a (adr c) none)) (fun v H2 => v = .non ∧ Q (.ref a) H2) (fun _ _ _ => False) := by
  refine ⟨rfl, fun a na => ⟨a, adr c, v, rfl, SC, upd_same, fun dx n1 n2 => ⟨rfl, ?_⟩⟩⟩
  have n1' : H1 dx = none := by rw [upd_ne n2] at n1; exact n1
  have eH : upd (upd (upd H1 a (exo a (adr c) none)) dx (exd dx [("value", v)])) a (exo a (adr c) (some dx)) = upd (upd H1 dx (exd dx [("value", v)])) a (exo a (adr c) (some dx)) := by
    funext b
    by_cases hb : b = a
    · rw [hb, upd_same, upd_same]
    · rw [upd_ne hb, upd_ne hb]
      by_cases h2 : b = dx
      · rw [h2, upd_same, upd_same]
      · rw [upd_ne h2, upd_ne h2, upd_ne hb]
  rw [eH]
  obtain ⟨R2, s2⟩ := R1.alloc (o := exd dx [("value", v)]) n1'
  have na2 : upd H1 dx (exd dx [("value", v)]) a = none := by rw [upd_ne (Ne.symm n2)]; exact na
  obtain ⟨R3, s3⟩ := R2.alloc (o := exo a (adr c) (some dx)) na2
  refine p _ _ (s2.trans s3) _ R3 ⟨a, dx, _, _, v, rfl, upd_same, .inl (by rw [i.a]), ?_, .inl rfl, Rep.mono (s2.trans s3) _ _ r⟩
  rw [upd_ne n2]; exact upd_same
theorem de_mkE (c : Nat) {ms : M (List D)} (EF : ExF X.prog X.w X.K X.mg X.base Dd f) (EK : ExK X.K X.mg (adr c) Dd f x) (hr : Room 2 X.A) (ha : DA X adr Wx [e] ms) (hg : Gl X x := by rfl)
    (hdb : (x == ("__debug__" : Str)) = false := by decide) (he : starEach [e] X.env = (false, eval e X.env) :: starEach [] X.env := by rfl) (hpl : (backTo pos (starEach [] X.env)).any (·.1) = false := by rfl) :
    DE X adr Wx (.Call (.Name x p) [e] [] pos) (eMkE c ms) := by
  obtain ⟨t, pt, q⟩ := ha
  obtain ⟨fd, F1, _, bd, _⟩ := EF.fn
  refine ⟨_, pe_mkE EK.s.oex EK.i EF.ty (F1 (MX true X.prog X.w)) hr bd passLM hg EK.g pt hdb he hpl, fun W σ ρ F H Q i R p => q W σ ρ F H _ i R (p.bind.imp fun l ρ1 F1 H1 s1 p vs R1 r1 => ?_)⟩
  match l, p with
  | [d], p =>
    obtain ⟨v, _, rfl, r, rfl⟩ := r1
    exact mkE_data i EK.s R1 r fun F' H' s u R2 r2 => p F' H' s u R2 r2
theorem de_mkEK (c : Nat) {m : M D} (EF : ExF X.prog X.w X.K X.mg X.base Dd f) (EK : ExK X.K X.mg (adr c) Dd f x) (hr : Room 2 X.A) (ha : DE X adr Wx e m) (hg : Gl X x := by rfl)
    (hdb : (x == ("__debug__" : Str)) = false := by decide)
    (hall : (backToKw pos (keywordEach [⟨some "value", e, kpos⟩] X.env)).all (·.1.isSome) = true := by rfl) (hks : (backToKw pos (keywordEach [⟨some "value", e, kpos⟩] X.env)).filterMap (·.1) = (["value"] : List Str) := by rfl)
    (hpl : ((backTo pos (starEach [] X.env)).any (·.1) || (backToKw pos (keywordEach [⟨some "value", e, kpos⟩] X.env)).any (·.1.isNone)) = false := by rfl) :
    DE X adr Wx (.Call (.Name x p) [] [⟨some "value", e, kpos⟩] pos) (eMkEK c m) := by
  obtain ⟨t, pt, q⟩ := ha
  obtain ⟨fd, F1, _, _, bd⟩ := EF.fn
  refine ⟨_, pe_mkEK EK.s.oex EK.i EF.ty (F1 (MX true X.prog X.w)) hr bd passLM hg EK.g (pk_cons pt pk_nil) hall hks hdb hpl, fun W σ ρ F H Q i R p => q W σ ρ F H _ i R (p.bind.imp fun d ρ1 F1 H1 s1 p v R1 r1 => ?_)⟩
  exact mkE_data i EK.s R1 r1 fun F' H' s u R2 r2 => p F' H' s u R2 r2
theorem de_xv {m : M D} {ecs : List Nat} (hT : ∀ c ∈ ecs, XfC X.K (adr c)) (hno : ∀ c ∈ ecs, PySem.W.findIn X.K (.ref (adr c)) "value" = some none) (h : DE X adr Wx e m) (hb : attributeBase e "value" X.env (eval e X.env) = eval e X.env := by rfl) :
    DE X adr Wx (.Attribute e "value" pos) (e1 (fXv ecs) m) := by
  obtain ⟨t, pt, q⟩ := h
  refine ⟨_, pe_xv pt hb, fun W σ ρ F H Q i R p => q W σ ρ F H _ i R (p.bind.imp fun d ρ1 F1 H1 s1 p v R1 r1 => ?_)⟩
  obtain ⟨z, e1, pz⟩ := opt_some p
  cases d <;> simp only [fXv, reduceCtorEq] at e1
  rename_i c d
  split at e1
  · rename_i hc
    have e1 := Option.some.inj e1
    subst e1
    obtain ⟨a, x, o, o2, w, rfl, g1, g2, g3, g4, r⟩ := r1
    rw [i.a] at g2
    exact ⟨a, adr c, x, o, o2, w, rfl, R1.sub _ _ g1, g2, R1.sub _ _ g3, g4, hT c hc, hno c hc, pz F1 H1 (Same.refl _) w R1 r⟩
  · cases e1
theorem de_isEx {m : M D} {ecs : List Nat} (f : Nat → Bool) {y : Str} {cv : Value} {cV : V} (hT : ∀ c ∈ ecs, ExcC X.K (adr c)) (hk : ∀ c ∈ ecs, PySem.W.kitOne X.K (.ref (adr c)) cv = some (f c)) (h : DE X adr Wx e m)
    (hy : PE X (.Name y p2) (tC cV)) (hcv : ∀ u, RelV cV u → u = cv) (hm : X.mg "isinstance" = none) (hg : Gl X "isinstance" := by rfl)
    (he : starEach [e, .Name y p2] X.env = (false, eval e X.env) :: starEach [.Name y p2] X.env := by rfl) (he2 : starEach [.Name y p2] X.env = (false, eval (.Name y p2) X.env) :: starEach [] X.env := by rfl) (hpl : (backTo pos (starEach [.Name y p2] X.env)).any (·.1) = false := by rfl) :
    DE X adr Wx (.Call (.Name "isinstance" p) [e, .Name y p2] [] pos) (e1 (fExIs ecs f) m) := by
  obtain ⟨t, pt, q⟩ := h
  refine ⟨_, pe_callB call_isEx hg hm PyProof.Rows.Boot.isinstance (pa_cons pt (pa_cons hy pa_nil he2) he) (by decide) (by decide) he hpl, fun W σ ρ F H Q i R p => q W σ ρ F H _ i R (p.bind.imp fun d ρ1 F1 H1 s1 p v R1 r1 => ?_)⟩
  obtain ⟨z, e1, p⟩ := opt_some p
  cases d <;> simp only [fExIs, reduceCtorEq] at e1
  rename_i c d
  split at e1
  · rename_i hc
    cases e1
    obtain ⟨a, x, o, o2, w, rfl, g1, g2, g3, g4, r⟩ := r1
    rw [i.a] at g2
    exact ⟨a, adr c, x, o, o2, w, cV, cv, f c, rfl, R1.sub _ _ g1, g2, R1.sub _ _ g3, g4, hT c hc, hcv, hk c hc, p F1 H1 (Same.refl _) _ R1 rfl⟩
  · cases e1
end
end DL

set_option maxHeartbeats 4000000
/-! EL2: as EL1, with own exceptions; a law that shows data. -/
namespace DL
open PySem L2 He
abbrev Fg : Type := PySem.W.Frag
/-! ### written data -/
mutual
def repB (K : Fg) : D → Value → Bool
  | .non, .none => true
  | .bl b, .bool c => b == c
  | .int i, .int j _ => decide (i = j)
  | .str x, .str y _ => decide (x = y)
  | .tup l, .ref a => (match K.lookup a with
    | some ⟨.type c, _, .seq its _, _⟩ => decide (c = "tuple") && (decide (its.size ≤ sizeLine) && repsB K l its.toList)
    | _ => false)
  | _, _ => false
def repsB (K : Fg) : List D → List Value → Bool
  | [], [] => true
  | d :: l, u :: us => repB K d u && repsB K l us
  | _, _ => false
end
mutual
theorem repB_ok {K : Fg} {adr : AdrT} : ∀ {d : D} {u : Value}, repB K d u = true → ∃ v, RelV v u ∧ ∀ F, Rep K adr F d v
  | .non, u, h => by cases u <;> simp [repB] at h; exact ⟨.non, rfl, fun _ => rfl⟩
  | .bl b, u, h => by cases u <;> simp [repB] at h; subst h; exact ⟨.bl _, rfl, fun _ => rfl⟩
  | .int i, u, h => by cases u <;> simp [repB] at h; subst h; exact ⟨.int _, ⟨_, rfl⟩, fun _ => rfl⟩
  | .str x, u, h => by cases u <;> simp [repB] at h; subst h; exact ⟨.str _, ⟨_, rfl⟩, fun _ => rfl⟩
  | .lst l, u, h => by cases u <;> simp [repB] at h
  | .obj c l, u, h => by cases u <;> simp [repB] at h
  | .scr l, u, h => by cases u <;> simp [repB] at h
  | .exn c d, u, h => by cases u <;> simp [repB] at h
  | .tup l, u, h => by
    cases u with
    | ref a =>
      unfold repB at h
      split at h
      · rename_i c dd its n sl e
        obtain ⟨h1, h2⟩ := ba h
        obtain ⟨h2, h3⟩ := ba h2
        have h1' : c = "tuple" := of_decide_eq_true h1
        subst h1'
        obtain ⟨vs, r, hr⟩ := repsB_ok (adr := adr) h3
        exact ⟨.ref a, rfl, fun F => ⟨a, vs, rfl, .inr ⟨_, its, n, e, rfl, rfl, of_decide_eq_true h2, r⟩, hr F⟩⟩
      · cases h
    | _ => simp [repB] at h
theorem repsB_ok {K : Fg} {adr : AdrT} : ∀ {l : List D} {us : List Value}, repsB K l us = true → ∃ vs, Vals vs us ∧ ∀ F, Reps K adr F l vs
  | [], us, h => by
    cases us with
    | nil => exact ⟨[], .nil, fun _ => rfl⟩
    | cons u us => simp [repsB] at h
  | d :: l, us, h => by
    cases us with
    | nil => simp [repsB] at h
    | cons u us =>
      unfold repsB at h
      obtain ⟨h1, h2⟩ := ba h
      obtain ⟨v, r1, p1⟩ := repB_ok (adr := adr) h1
      obtain ⟨vs, r2, p2⟩ := repsB_ok (adr := adr) h2
      exact ⟨v :: vs, .cons r1 r2, fun F => ⟨v, vs, rfl, p1 F, p2 F⟩⟩
end
/-! ### defs -/
structure DefY where
  at_ : Fg → Addr
  name : Str
  qual : Str
  st : Stmt
  dfl : List D := []
  cell : Bool := false
def fnA (K : Fg) (a : Addr) : FnW := match K.lookup a with
  | some ⟨_, _, .func fd, _⟩ => some (fd.name, fd.qualname, fd.params, fd.body, fd.scope, fd.globals, fd.closure.map fun p => (p.1, (0 : Addr)), fd.builtins)
  | _ => none
def DefY.val (d : DefY) : FnW := some (d.name, d.qual, defArgs d.st, .stmts (defBody d.st), defScope d.st, mainGlobals, if d.cell = true then [(("__class__" : Str), (0 : Addr))] else [], builtinsNs)
def dflD (K : Fg) (dV : Value) : List D → Bool
  | [] => (match dV with | .none => true | _ => false)
  | l => (match dV with
    | .ref T => (match K.lookup T with
      | some ⟨_, _, .seq its _, _⟩ => repsB K l its.toList
      | _ => false)
    | _ => false)
theorem dflD_ok {K : Fg} {adr : AdrT} {dV : Value} {l : List D} (h : dflD K dV l = true) : ∃ dvs, (∀ F, Reps K adr F l dvs) ∧ DflV K dV dvs := by
  cases l with
  | nil =>
    cases dV <;> simp [dflD] at h
    exact ⟨[], fun _ => rfl, .inl ⟨rfl, rfl⟩⟩
  | cons d l =>
    cases dV with
    | ref T =>
      unfold dflD at h
      dsimp only at h
      split at h
      · rename_i o1 o2 its n sl e
        obtain ⟨vs, r, p⟩ := repsB_ok (adr := adr) h
        refine ⟨vs, p, .inr ⟨?_, T, _, its.toList, n, rfl, e, rfl, r⟩⟩
        intro z
        have := (p fun _ => none).length
        rw [z] at this
        simp at this
      · cases h
    | _ => simp [dflD] at h
def DefY.ok (K : Fg) (d : DefY) : Bool := PySem.W.keepIn K (.ref (d.at_ K)) && (match K.lookup (d.at_ K) with
  | some ⟨_, _, .func fd, _⟩ => PySem.W.codeIn K fd.code d.qual && dflD K fd.defaults d.dfl
  | _ => false)
theorem DefY.funD {K : Fg} {adr : AdrT} {d : DefY} (e : fnA K (d.at_ K) = d.val) (c : d.ok K = true) (hcl : d.cell = false := by rfl) : ∃ fd dvs, (∀ F, Reps K adr F d.dfl dvs) ∧ FunD K d.name d.qual (defArgs d.st) (defBody d.st) (defScope d.st) dvs [] (d.at_ K) fd := by
  obtain ⟨kp, c2⟩ := ba c
  unfold fnA at e
  cases q : K.lookup (d.at_ K) with
  | none => rw [q] at c2; cases c2
  | some o =>
    obtain ⟨oc, od, dt, osl⟩ := o
    rw [q] at c2 e
    cases dt with
    | func fd =>
      obtain ⟨n1, n2, n3, n4, n5, n6, n7, n8, n9, n10, n11, n12, n13, n14, n15⟩ := fd
      have e2 : (some (n1, n2, n3, n4, n5, n6, n7.map fun p => (p.1, (0 : Addr)), n15) : FnW) = some (d.name, d.qual, defArgs d.st, .stmts (defBody d.st), defScope d.st, mainGlobals, if d.cell = true then [(("__class__" : Str), (0 : Addr))] else [], builtinsNs) := e
      rw [hcl, if_neg Bool.false_ne_true] at e2
      simp only [Option.some.injEq, Prod.mk.injEq, List.map_eq_nil_iff] at e2
      obtain ⟨h1, h2, h3, h4, h5, h6, h7, h8⟩ := e2
      subst h1 h2 h3 h4 h5 h6 h7 h8
      have c3 : (PySem.W.codeIn K n13 d.qual && dflD K n8 d.dfl) = true := c2
      obtain ⟨k1, k2⟩ := ba c3
      obtain ⟨dvs, p, hd⟩ := dflD_ok (adr := adr) k2
      exact ⟨_, dvs, p, ⟨oc, od, n8, n9, n10, n11, n12, n13, n14, osl, rfl, q, k1, hd, .inl rfl⟩, kp⟩
    | _ => cases c2
theorem fun_of_funD {K : Fg} {x qual : Str} {st : Stmt} {f : Addr} {fd : FuncData} (h : FunD K x qual (defArgs st) (defBody st) (defScope st) [] [] f fd) : Fun K x qual st f fd := by
  obtain ⟨⟨oc, od, dV, kV, doc, pm, an, cdv, ct, osl, e, l, c, hd, hk⟩, kp⟩ := h
  rcases hd with ⟨_, rfl⟩ | ⟨z, _⟩
  · exact ⟨⟨oc, od, kV, doc, pm, an, cdv, ct, osl, e, l, c⟩, kp⟩
  · exact absurd rfl z
theorem DefY.fun_ {K : Fg} {d : DefY} (e : fnA K (d.at_ K) = d.val) (c : d.ok K = true) (hd : d.dfl = []) (hcl : d.cell = false := by rfl) : ∃ fd, Fun K d.name d.qual d.st (d.at_ K) fd := by
  obtain ⟨fd, dvs, p, F⟩ := DefY.funD (adr := ⟨fun _ => 0, []⟩) e c hcl
  rw [hd] at p
  have : dvs = [] := p fun _ => none
  subst this
  exact ⟨fd, fun_of_funD F⟩
/-! ### the hook -/
abbrev AlY : Type := List FnW × List (Option (List (Option (Str × Int)))) × Bool
def obsK (fn : List DefY) (ts : List Tab) (ex : List (Fg → Bool)) (K : Fg) : AlY := (fn.map fun d => fnA K (d.at_ K), ts.map fun t => dicW K (t.1 K), (fn.all fun d => d.ok K) && ex.all fun f => f K)
def obsY (n : Nat) (fn : List DefY) (ts : List Tab) (ex : List (Fg → Bool)) (g : Addr → Option Obj) : AlY := obsK fn ts ex (frT g (List.range n))
def valY (fn : List DefY) (ts : List Tab) (w : World) : AlY := (fn.map DefY.val, ts.map fun t => some (keysIn w.params t.2), true)
def SaysY (fn : List DefY) (ts : List Tab) (ex : List (Fg → Bool)) (w : World) (K : Fg) : Prop := obsK fn ts ex K = valY fn ts w
def hookY (n : Nat) (fn : List DefY) (ts : List Tab) (ex : List (Fg → Bool)) : PySem.W.Hook where
  α := AlY
  obs := fun s => obsY n fn ts ex s.heap.get?
  val := fun w => valY fn ts w
  says := fun w h => ∃ K : Fg, K.In h ∧ SaysY fn ts ex w K
  of := fun _ _ e => ⟨_, frT_in, e⟩
  keeps := fun _ _ _ ⟨K, hK, c⟩ k => ⟨K, PySem.W.Frag.In.keeps hK k, c⟩
theorem obsY_eq {n : Nat} {fn : List DefY} {ts : List Tab} {ex : List (Fg → Bool)} {g : Addr → Option Obj} {s : Shared} (h : ∀ a, g a = s.heap.get? a) : obsY n fn ts ex g = (hookY n fn ts ex).obs s := by
  have e : g = s.heap.get? := funext h
  rw [e] <;> rfl
section
variable {fn : List DefY} {ts : List Tab} {ex : List (Fg → Bool)} {w : World} {K : Fg}
theorem SaysY.fact (c : SaysY fn ts ex w K) (i : Nat) {f : Fg → Bool} (h : ex[i]? = some f := by rfl) : f K = true := by
  have c1 : ((fn.all fun d => d.ok K) && ex.all fun f => f K) = true := congrArg (fun z : AlY => z.2.2) c
  exact List.all_eq_true.mp (ba c1).2 f (List.mem_of_getElem? h)
theorem SaysY.def_ (c : SaysY fn ts ex w K) (i : Nat) {d : DefY} (h : fn[i]? = some d := by rfl) : fnA K (d.at_ K) = d.val ∧ d.ok K = true := by
  have c1 : ((fn.all fun d => d.ok K) && ex.all fun f => f K) = true := congrArg (fun z : AlY => z.2.2) c
  have c2 : fn.map (fun d => fnA K (d.at_ K)) = fn.map DefY.val := congrArg (fun z : AlY => z.1) c
  refine ⟨?_, List.all_eq_true.mp (ba c1).1 d (List.mem_of_getElem? h)⟩
  have e := congrArg (fun l : List FnW => l[i]?) c2
  simp only [List.getElem?_map, h, Option.map_some, Option.some.injEq] at e
  exact e
theorem SaysY.tab (c : SaysY fn ts ex w K) (i : Nat) {t : Tab} (h : ts[i]? = some t := by rfl) : dicW K (t.1 K) = some (keysIn w.params t.2) := by
  have c2 : ts.map (fun t => dicW K (t.1 K)) = ts.map fun t => some (keysIn w.params t.2) := congrArg (fun z : AlY => z.2.1) c
  have e := congrArg (fun l : List (Option (List (Option (Str × Int)))) => l[i]?) c2
  simp only [List.getElem?_map, h, Option.map_some, Option.some.injEq] at e
  exact e
end
/-- two looks at one run -/
theorem run_join {α β γ δ : Type} {x : Option α} {f : α → β} {g : α → γ} {h : α → δ} {b : β} {c : γ} {d : δ} (h1 : x.map (fun s => (f s, g s)) = some (b, c)) (h2 : x.map h = some d) : x.map (fun s => (f s, g s, h s)) = some (b, c, d) := by
  cases x with
  | none => cases h1
  | some a =>
    simp only [Option.map_some, Option.some.injEq, Prod.mk.injEq] at h1 h2 ⊢
    exact ⟨h1.1, h1.2, h2⟩
/-! ### facts -/
def famB (f : Fa) : Fg → Bool := fun K => f.ok K
/-- a property's getter -/
def getterA (K : Fg) (x m : Str) : Addr := match PySem.W.recIn K (ma K (ga K x) m) "property" with
  | some (.ref g :: _) => g
  | _ => 0
def propB (x m : Str) : Fg → Bool := fun K => eqO (PySem.W.findIn K (.ref (ga K x)) m) (some (some (.ref (ma K (ga K x) m)))) && (eqO (PySem.W.specialIn K (.ref (ma K (ga K x) m)) "__get__") (some (some (.builtin "property.__get__"))) &&
  (decide (PySem.W.takesIn K (.ref (ma K (ga K x) m)) = some true) && (match PySem.W.recIn K (ma K (ga K x) m) "property" with
    | some (.ref _ :: _) => true
    | _ => false)))
theorem propB_ok {K : Fg} {x m : Str} (h : propB x m K = true) : PropOf K (ga K x) m (ma K (ga K x) m) (getterA K x m) := by
  obtain ⟨h1, h2⟩ := ba h
  obtain ⟨h2, h3⟩ := ba h2
  obtain ⟨h3, h4⟩ := ba h3
  refine ⟨He.eqO_ok h1, He.eqO_ok h2, of_decide_eq_true h3, ?_⟩
  unfold getterA
  split at h4
  · rename_i g r e
    exact ⟨r, by rw [e]⟩
  · cases h4
def insB (x : Str) : Fg → Bool := fun K => (Fa.cls x).ok K && (eqO (PySem.W.findIn K (.ref (ga K x)) "__class__") (some (some (.builtin "object.__class__"))) && (eqO (PySem.W.specialIn K (.builtin "object.__class__") "__get__") (some (some (.builtin "getset_descriptor.__get__"))) &&
  (decide (PySem.W.takesIn K (.builtin "object.__class__") = some true) && decide (PySem.W.mroIn K (ga K x) (.type "object") = some true))))
theorem insB_ok {K : Fg} {x : Str} (h : insB x K = true) : InsT K (ga K x) := by
  obtain ⟨h1, h2⟩ := ba h
  obtain ⟨h2, h3⟩ := ba h2
  obtain ⟨h3, h4⟩ := ba h3
  obtain ⟨h4, h5⟩ := ba h4
  exact ⟨cls_ok h1, He.eqO_ok h2, He.eqO_ok h3, of_decide_eq_true h4, of_decide_eq_true h5⟩
def fndB (x m : Str) (v : Fg → Value) : Fg → Bool := fun K => eqO (PySem.W.findIn K (.ref (ga K x)) m) (some (some (v K)))
theorem fndB_ok {K : Fg} {x m : Str} {v : Fg → Value} (h : fndB x m v K = true) : PySem.W.findIn K (.ref (ga K x)) m = some (some (v K)) := He.eqO_ok h
def isfB (v : Fg → Addr) : Fg → Bool := fun K => PySem.W.isFn K (.ref (v K))
def kitB (A : Fg → AdrT) (tys : List TyT) (t : TyT) : Fg → Bool := fun K => tys.all fun u => decide (PySem.W.kitOne K (u.val (A K)) (t.val (A K)) = some (decide (u = t)))
theorem kitB_ok {K : Fg} {A : Fg → AdrT} {tys : List TyT} {t : TyT} (h : kitB A tys t K = true) : ∀ u ∈ tys, PySem.W.kitOne K (u.val (A K)) (t.val (A K)) = some (decide (u = t)) := fun u hu => of_decide_eq_true (List.all_eq_true.mp h u hu)
def nfB (A : Fg → AdrT) (tys : List TyT) (x : Str) : Fg → Bool := fun K => tys.all fun t => PySem.W.notFirst K (ga K x) (t.val (A K))
theorem nfB_ok {K : Fg} {A : Fg → AdrT} {tys : List TyT} {x : Str} (h : nfB A tys x K = true) : ∀ t ∈ tys, PySem.W.notFirst K (ga K x) (t.val (A K)) = true := fun t ht => List.all_eq_true.mp h t ht
/-- a table of the module -/
def tblB (x : Str) (tbl : List (Str × D)) : Fg → Bool := fun K => tbl.all fun q => match PySem.W.nsIn K (ga K x) q.1 with
  | some (some u) => repB K q.2 u
  | _ => false
theorem lookup_mem' {α : Type} {z : Str} {d : α} : ∀ {l : List (Str × α)}, l.lookup z = some d → (z, d) ∈ l
  | [], h => by cases h
  | (a, b) :: l, h => by
    rw [List.lookup_cons] at h
    cases e : z == a with
    | true =>
      rw [e] at h
      cases h
      rw [eq_of_beq e]
      exact List.mem_cons_self
    | false =>
      rw [e] at h
      exact List.mem_cons_of_mem _ (lookup_mem' h)
theorem key_of {P : Params} : ∀ {l : List DictEntry} {ks : List Str}, l.map keyOf = keysIn P ks → ∀ e ∈ l, ∃ x t, e.key = .str x t ∧ x ∈ ks
  | [], _, _, e, he => by cases he
  | d :: l, [], h, e, he => by simp [keysIn] at h
  | d :: l, k :: ks, h, e, he => by
    unfold keysIn at h
    simp only [List.map_cons, List.cons.injEq] at h
    rcases List.mem_cons.mp he with rfl | he
    · have h1 := h.1
      unfold keyOf at h1
      split at h1
      · rename_i x t q
        have h3 := Option.some.inj h1
        exact ⟨x, t, q, by rw [(Prod.mk.inj h3).1]; exact List.mem_cons_self⟩
      · cases h1
    · obtain ⟨x, t, q, hx⟩ := key_of (ks := ks) h.2 e he
      exact ⟨x, t, q, List.mem_cons_of_mem _ hx⟩
theorem tblB_ok {K : Fg} {adr : AdrT} {w : World} {x : Str} {tbl : List (Str × D)} {ks : List Str} (h : tblB x tbl K = true) (hk : dicW K (ga K x) = some (keysIn w.params ks)) (hks : tbl.map (·.1) = ks) : KD K adr w (ga K x) tbl := by
  obtain ⟨es, n, kd⟩ := dicW_ok hk
  refine ⟨⟨es, n, kd.at_, kd.lit⟩, kd.low, fun z d hz => ?_, fun z hz => ?_⟩
  · have h1 := List.all_eq_true.mp h _ (lookup_mem' hz)
    simp only at h1
    split at h1
    · rename_i u e
      obtain ⟨v, r, p⟩ := repB_ok (adr := adr) h1
      exact ⟨u, v, e, r, p⟩
    · cases h1
  · have hn : z ∉ ks := fun hm => by
      rw [← hks] at hm
      obtain ⟨q, hq, rfl⟩ := List.mem_map.mp hm
      rw [List.lookup_eq_none_iff] at hz
      have := hz q hq
      simp at this
    have hkeys : es.toList.map keyOf = keysIn w.params ks := by
      unfold dicW at hk
      rw [kd.at_] at hk
      have h1 : (match decide (("dict" : String) = "dict") && ((#[] : Array (Option Value)).isEmpty && !(ga K x == sysModules)) with
            | true => some (es.toList.map keyOf)
            | false => none) = some (keysIn w.params ks) := hk
      rw [show (decide (("dict" : String) = "dict") && ((#[] : Array (Option Value)).isEmpty && !(ga K x == sysModules))) = true by rw [kd.low]; rfl] at h1
      exact Option.some.inj h1
    unfold PySem.W.nsIn
    rw [kd.at_]
    dsimp only
    have f : es.toList.find? (·.key.isStr z) = none := by
      rw [List.find?_eq_none]
      intro e he
      obtain ⟨y, t, q, hy⟩ := key_of hkeys e he
      rw [q]
      intro hh
      have : y = z := by simpa [Value.isStr] using hh
      exact hn (by rw [← this]; exact hy)
    rw [f]
    dsimp only
    have g : es.toList.any (·.refKey) = false := by
      rw [List.any_eq_false]
      intro e he
      obtain ⟨y, t, q, hy⟩ := key_of hkeys e he
      unfold DictEntry.refKey
      rw [q]
      simp
    rw [g]; rfl
/-! ### the law's promise, from its meaning -/
theorem spLaw_ok {K : Fg} {adr : AdrT} {f : Fn} {n : Nat} (hf : ∀ ns : List Int, ns.length ≤ n → f [.frz (.scr ns)] = .ok (.frz (.bl true)) []) {H : Hp} {a : Addr} {ns : List Int} (hl : ns.length ≤ n) (hS : SqL K H a (ns.map V.int)) {Q : VK} {E : XK} (hQ : ∀ H', Q (.bl true) H') : spD K adr f [.ref a] H Q E := by
  refine ⟨H, fun _ => none, [.frz (.scr ns)], ⟨rfl, Same.refl _, fun _ _ z => (nomatch z), fun i s e => ?_⟩, ?_⟩
  · cases i with
    | zero =>
      cases e
      exact ⟨.ref a, rfl, .ref a, rfl, a, rfl, hS⟩
    | succ i => cases i <;> cases e
  · rw [hf ns hl]
    intro v F' H' σ ρ R _ _ _
    obtain ⟨w, R⟩ := R
    have hl : σ.length = ρ.length := by
      have := R.len
      rw [List.length_append, List.length_append] at this
      simpa using this
    obtain ⟨ov, h1, v', h2, h3⟩ := R.slots ρ.length (.frz (.bl true)) (by rw [List.getElem?_append_right (Nat.le_refl _)]; simp)
    rw [← hl, List.getElem?_append_right (Nat.le_refl _)] at h1
    simp at h1
    rw [h2] at h1
    cases h1
    have h3' : v = .bl true := h3
    rw [h3']
    exact hQ H'
/-! ### own exceptions -/
/-- the class's own record -/
def oexB (x : Str) : Fg → Bool := fun K => (match K.lookup (ga K x) with
  | some ⟨.type "type", _, .cls cd, sl⟩ => (match cd.mro, sl.toList with
    | .ref C' :: bm, [_, _, _, _, some (.builtin n), _] => decide (C' = ga K x) && (decide (n = "ValueError.__new__") && (!cd.hasDel && (cd.hasDict && PySem.HandSPX.refsVE bm)))
    | _, _ => false)
  | _ => false) && (eqO (PySem.W.findIn K (.ref (ga K x)) "__setattr__") (some (some (.builtin "object.__setattr__"))) && (decide (PySem.W.subIn K (.ref (ga K x)) (.type "BaseException") = some true) && (decide (PySem.W.typeIn K (.ref (ga K x)) = some (.type "type")) && PySem.W.keepIn K (.ref (ga K x)))))
theorem oexB_ok {K : Fg} {x : Str} (h : oexB x K = true) : OexC K (ga K x) := by
  obtain ⟨q, h⟩ := ba h
  obtain ⟨h1, h⟩ := ba h
  obtain ⟨h2, h⟩ := ba h
  obtain ⟨h3, h4⟩ := ba h
  refine ⟨?_, He.eqO_ok h1, of_decide_eq_true h2, of_decide_eq_true h3, h4⟩
  split at q
  · rename_i dd cd sl ho
    split at q
    · rename_i C' bm k0 k1 k2 k3 n k5 hm hs
      obtain ⟨q1, q⟩ := ba q
      obtain ⟨q2, q⟩ := ba q
      obtain ⟨q3, q⟩ := ba q
      obtain ⟨q4, q5⟩ := ba q
      have q1 := of_decide_eq_true q1
      have q2 := of_decide_eq_true q2
      obtain ⟨nm, bs, mro, ns, qn, hd, sn, sub, ab, col, del⟩ := cd
      dsimp only at hm q3 q4
      rw [Bool.not_eq_true'] at q3
      subst hm q3 q4 q2
      have hsl : sl = #[k0, k1, k2, k3, some (.builtin "ValueError.__new__"), k5] := by
        obtain ⟨l⟩ := sl
        simp only at hs
        rw [hs]
      subst hsl
      subst q1
      exact ⟨_, _, _, _, bm, _, _, _, _, _, _, _, _, _, _, ho, q5⟩
    · cases q
  · cases q
def supB (d x : Str) : Fg → Bool := fun K => oexB x K && (eqO (PySem.W.ks_superIn K (ga K x) (ga K d) "__init__") (some (some (.builtin "ValueError.__init__"))) && (decide (PySem.W.mroIn K (ga K x) (.ref (ga K d)) = some true) &&
  (decide (PySem.W.subIn K (.ref (ga K x)) (.type "ValueError") = some true) && eqO (PySem.W.findIn K (.ref (ga K x)) "value") (some none))))
theorem supB_ok {K : Fg} {d x : Str} (h : supB d x K = true) : SupC K (ga K d) (ga K x) := by
  obtain ⟨h1, h⟩ := ba h
  obtain ⟨h2, h⟩ := ba h
  obtain ⟨h3, h⟩ := ba h
  obtain ⟨h4, h5⟩ := ba h
  exact ⟨oexB_ok h1, He.eqO_ok h2, of_decide_eq_true h3, of_decide_eq_true h4, He.eqO_ok h5⟩
/-- what isinstance asks -/
def excB (x : Str) : Fg → Bool := fun K => xfB K (ga K x) && (eqO (PySem.W.findIn K (.ref (ga K x)) "__class__") (some (some (.builtin "object.__class__"))) && (eqO (PySem.W.specialIn K (.builtin "object.__class__") "__get__") (some (some (.builtin "getset_descriptor.__get__"))) &&
  (decide (PySem.W.takesIn K (.builtin "object.__class__") = some true) && decide (PySem.W.mroIn K (ga K x) (.type "object") = some true))))
theorem excB_ok {K : Fg} {x : Str} (h : excB x K = true) : XfC K (ga K x) ∧ ExcC K (ga K x) := by
  obtain ⟨h0, h⟩ := ba h
  obtain ⟨h1, h⟩ := ba h
  obtain ⟨h2, h⟩ := ba h
  obtain ⟨h3, h4⟩ := ba h
  have T := xfB_ok h0
  exact ⟨T, ⟨T.ga, T.gg, T.exC, T.hdC, He.eqO_ok h1, He.eqO_ok h2, of_decide_eq_true h3, of_decide_eq_true h4⟩⟩
def exmB (A : Fg → AdrT) (ecs : List Nat) (k : Nat) : Fg → Bool := fun K => ecs.all fun c => decide (PySem.W.exmOne K (.ref (A K c)) (.ref (A K k)) = some (decide (c = k)))
theorem exmB_ok {K : Fg} {A : Fg → AdrT} {ecs : List Nat} {k : Nat} (h : exmB A ecs k K = true) : ∀ c ∈ ecs, PySem.W.exmOne K (.ref (A K c)) (.ref (A K k)) = some (decide (c = k)) := fun c hc => of_decide_eq_true (List.all_eq_true.mp h c hc)
def kieB (A : Fg → AdrT) (ecs : List Nat) (k : Nat) : Fg → Bool := fun K => ecs.all fun c => decide (PySem.W.kitOne K (.ref (A K c)) (.ref (A K k)) = some (decide (c = k)))
theorem kieB_ok {K : Fg} {A : Fg → AdrT} {ecs : List Nat} {k : Nat} (h : kieB A ecs k K = true) : ∀ c ∈ ecs, PySem.W.kitOne K (.ref (A K c)) (.ref (A K k)) = some (decide (c = k)) := fun c hc => of_decide_eq_true (List.all_eq_true.mp h c hc)
def exmG (A : Fg → AdrT) (ecs : List Nat) (k : Nat) (f : Nat → Bool) : Fg → Bool := fun K => ecs.all fun c => decide (PySem.W.exmOne K (.ref (A K c)) (.ref (A K k)) = some (f c))
theorem exmG_ok {K : Fg} {A : Fg → AdrT} {ecs : List Nat} {k : Nat} {f : Nat → Bool} (h : exmG A ecs k f K = true) : ∀ c ∈ ecs, PySem.W.exmOne K (.ref (A K c)) (.ref (A K k)) = some (f c) := fun c hc => of_decide_eq_true (List.all_eq_true.mp h c hc)
def kieG (A : Fg → AdrT) (ecs : List Nat) (v : Fg → Value) (f : Nat → Bool) : Fg → Bool := fun K => ecs.all fun c => decide (PySem.W.kitOne K (.ref (A K c)) (v K) = some (f c))
theorem kieG_ok {K : Fg} {A : Fg → AdrT} {ecs : List Nat} {v : Fg → Value} {f : Nat → Bool} (h : kieG A ecs v f K = true) : ∀ c ∈ ecs, PySem.W.kitOne K (.ref (A K c)) (v K) = some (f c) := fun c hc => of_decide_eq_true (List.all_eq_true.mp h c hc)
def ktB (A : Fg → AdrT) (tys : List TyT) (n : String) : Fg → Bool := fun K => tys.all fun u => decide (PySem.W.kitOne K (u.val (A K)) (.type n) = some (decide (u = .ty n)))
theorem ktB_ok {K : Fg} {A : Fg → AdrT} {tys : List TyT} {n : String} (h : ktB A tys n K = true) : ∀ u ∈ tys, PySem.W.kitOne K (u.val (A K)) (.type n) = some (decide (u = .ty n)) := fun u hu => of_decide_eq_true (List.all_eq_true.mp h u hu)
/-- the __init__ of the exceptions -/
def initB (d file : Str) : Fg → Bool := fun K => (match K.lookup (ma K (ga K d) "__init__") with
  | some ⟨_, _, .func fd, _⟩ => (match fd.code, fd.closure with
    | .ref cda, [(_, cc)] => PySem.W.codeIn K (.ref cda) fd.qualname && ((match K.lookup cda with
        | some ⟨_, _, .fields vs, _⟩ => (match (vs[2]? : Option Value) with
          | some (Value.str z _) => decide (z = file)
          | _ => false)
        | _ => false) && (match K.lookup cc with
        | some ⟨_, _, .cell (some (.ref D)), _⟩ => decide (D = ga K d)
        | _ => false))
    | _, _ => false)
  | _ => false) && ((PySem.W.clsIn K (ga K d)).isSome && (eqO (PySem.W.nsIn K cStatics "thirdparty.any") (some none) && decide (PySem.W.typeIn K (.ref (ma K (ga K d) "__init__")) = some (.type "function"))))
theorem initB_ok {P : Program} {K : Fg} {mg : Str → Option Value} {d file : Str} {y : DefY} (e : fnA K (y.at_ K) = y.val) (hy : y.at_ K = ma K (ga K d) "__init__") (hcl : y.cell = true) (h : initB d file K = true) (hf : file = P.main.file) (hs : mg "super" = none) (top : (P.main.scope.names.lookup ("super" : Str)).isSome = false) (ok : y.ok K = true) (hd : y.dfl = [])
    (hbind : ∀ fd : FuncData, fd.params = defArgs y.st → fd.defaults = .none → BindE fd) :
    ∃ cc cda fd, SupF P K mg (ga K d) (ma K (ga K d) "__init__") cc cda fd y.st ∧ PySem.W.typeIn K (.ref (ma K (ga K d) "__init__")) = some (.type "function") ∧ BindE fd := by
  obtain ⟨q, h⟩ := ba h
  obtain ⟨h1, h⟩ := ba h
  obtain ⟨h2, h3⟩ := ba h
  rw [hy] at e
  have ok2 := (ba ok).2
  rw [hy, hd] at ok2
  unfold fnA at e
  split at q
  · rename_i oc od fd osl ho
    rw [ho] at e ok2
    have hdf : fd.defaults = .none := by
      have z := (ba ok2).2
      revert z
      cases fd.defaults <;> intro z <;> first | rfl | cases z
    have bnd := fun h => hbind fd h hdf
    obtain ⟨n1, n2, n3, n4, n5, n6, n7, n8, n9, n10, n11, n12, n13, n14, n15⟩ := fd
    have e2 : (some (n1, n2, n3, n4, n5, n6, n7.map fun p => (p.1, (0 : Addr)), n15) : FnW) = some (y.name, y.qual, defArgs y.st, .stmts (defBody y.st), defScope y.st, mainGlobals, if y.cell = true then [(("__class__" : Str), (0 : Addr))] else [], builtinsNs) := e
    rw [hcl, if_pos rfl] at e2
    simp only [Option.some.injEq, Prod.mk.injEq] at e2
    obtain ⟨g1, g2, g3, g4, g5, g6, g7, g8⟩ := e2
    dsimp only at q
    split at q
    · rename_i cda nm cc
      simp only [List.map_cons, List.map_nil, List.cons.injEq, Prod.mk.injEq, and_true] at g7
      obtain ⟨q1, q⟩ := ba q
      obtain ⟨q2, q3⟩ := ba q
      refine ⟨cc, cda, _, ⟨⟨_, _, _, ho⟩, g3, g4, g5, g6, by rw [g7], g8, rfl, q1, ?_, ?_, Option.isSome_iff_exists.mp h1, He.eqO_ok h2, hs, top⟩, of_decide_eq_true h3, bnd g3⟩
      · split at q2
        · rename_i a b vs sl hc
          split at q2
          · rename_i z2 t2 hv
            have := of_decide_eq_true q2
            exact ⟨a, b, vs, sl, t2, hc, by rw [hv, this, hf]⟩
          · cases q2
        · cases q2
      · split at q3
        · rename_i a b D sl hc
          exact ⟨a, b, sl, by rw [hc, of_decide_eq_true q3]⟩
        · cases q3
    · cases q
  · cases q
theorem exF_of {P : Program} {w : World} {K : Fg} {mg : Str → Option Value} {base : Heap} {D f cc cda : Addr} {fd : FuncData} {st : Stmt} (F : SupF P K mg D f cc cda fd st) (T : SupT st) (ty : PySem.W.typeIn K (.ref f) = some (.type "function"))
    (hb : BindE fd) : ExF P w K mg base D f :=
  ⟨⟨fd, fun CX => exc_init_ok F T, fun CX => exc_init_okH F T, .all (ps := ["self", "value"]) hb.1, hb⟩, ty⟩
theorem walk_law {l : PySem.W.OpenLaw} {n k : Nat} {q : Program} {loose : List Str} {XP : (Str → Option Value) → Heap → Prop} {YP : World → Heap → Prop} {dr : DefRec} (most : l.most = some n) (line : n ≤ sizeLine) (nod : dr.params.defaults = []) (room : Room k callerA)
    (get : ∀ (w : World) (mg : Str → Option Value) (fa : Addr) (h : Heap), YP w h → h.Ns mainGlobals mg → mg dr.name = some (.ref fa) → ∃ (K : Fg) (fd : FuncData) (adr : AdrT) (f : Fn), K.In h ∧ (∀ (s : Shared) (u : Value), BindsTo s fd ⟨[u], []⟩ [("script", u)]) ∧
      (∀ ns : List Int, ns.length ≤ n → f [.frz (.scr ns)] = .ok (.frz (.bl true)) []) ∧ ∀ base : Heap, K.In base → base.Ns mainGlobals mg → FnOk l.prog w K mg base (L2.CX l.prog w) k fa fd ["script"] (spD K adr f)) : PySem.W.WalkO q loose XP YP l.row.toRowW dr [] (fun f vs => PySem.call f vs) := by
  refine Att.attach_call most nod ?_
  intro w sa sb mg mb fa o pm cd doc a vs ns G Y ho hd hcd hmg hobj hints hlen hg
  obtain ⟨K, fd, adr, f, KX, hb, hf, hF⟩ := get w mg fa _ Y G.T.g hmg
  refine law_call KX G.T.g G.T.b G.T.builtins G.T.nolimit hg hobj hints (Nat.le_trans hlen line) room hF hb ?_ ?_
  · exact fun H _ hS => spLaw_ok (n := n) hf hlen hS fun _ => rfl
  · exact fun H e s' ⟨_, _, _, _, _, _, _, _, _, _, _, _, z⟩ => z
end DL

set_option maxHeartbeats 4000000
/-! EL3: the law's own call, where nothing that is shown is under way. -/
namespace DL
open PySem L2 He PySem.Spec PyProof.Rows
/-- what a def promises to the one that asks the law -/
def FnAt (P : Program) (w : World) (K : PySem.W.Frag) (mg : Str → Option Value) (base : Heap) (CX : CXT) (f : Addr) (fd : FuncData) (ps : List Str) (sp : Sp) : Prop :=
  ∀ (outer : List Env) (s : Shared) (H : Hp) (args : Args) (us : List Value) (vs : List V) (Q : VK) (E : XK), Env0 P w K mg base callerA outer s H → BindsTo s fd args (ps.zip us) → Vals vs us → sp vs H Q E →
    codeAny (model P w) callerA (.call (.ref f) args) (CR CX outer P w H s Q E) s
theorem fnAt_of {CX : CXT} {P : Program} {w : World} {K : PySem.W.Frag} {mg : Str → Option Value} {base : Heap} {k : Nat} {x qual : Str} {st : Stmt} {f : Addr} {fd : FuncData} {N ps : List Str} {sp : Sp} (F : Fun K x qual st f fd) (S : FnScope N ps (defScope st)) (hr : Room (k + 1) callerA)
    (len : ∀ vs H Q E, sp vs H Q E → vs.length = ps.length)
    (hbody : ∀ (cdv : Value) (outer : List Env) (s : Shared) (H : Hp) (vs : List V) (Q : VK) (E : XK), Room k (callerA.deeper (envOfC qual (defScope st) s.heap.objs.size f cdv)) → sp vs H Q E →
      ∃ t, PSs (cxOf CX P w K mg base N qual (defScope st) f cdv callerA outer s H E) (defBody st) t ∧ t { nx := fun _ H' => Q .non H', rt := Q } (start N vs) H) : FnAt P w K mg base CX f fd ps sp := by
  obtain ⟨oc, od, kV, doc, pm, an, cdv, ct, osl, rfl, lk, hcd⟩ := F.ex
  intro outer s H args us vs Q E e0 hb r hsp
  have hl := len _ _ _ _ hsp
  have KX : K.In s.heap := e0.mod.kin.keeps fun b o e => (e0.bs b o e).1
  have lim : s.heap.NoLimit := e0.mod.nolimit.keeps fun b o e => (e0.bs b o e).1
  have hkind : ∀ y ∈ ps.zip us, (defScope st).names.lookup y.1 = some .local ∨ ((defScope st).names.lookup y.1 = some .cell ∧ ((cellsFrom (s.heap.objs.size + 1) (defScope st).names []).lookup y.1).isSome = true) := fun ⟨n, v⟩ hy => by
    rcases S.par n (List.of_mem_zip hy).1 with q | q
    · exact .inl q
    · exact .inr ⟨q, PySem.W.cellsFrom_some _ _ _ (.inl q)⟩
  refine codeAny_call_function hr.depth (KX _ _ lk) rfl S.co S.gen rfl (PySem.W.codeRec_of KX hcd) (hb _ _ _ _ ?_)
  refine wpAny_newFunctionEnv_cells S.kind hkind fun env he s1 x => ?_
  subst he
  refine ⟨lim.keeps x.toInCall.keep, codeAny_func ?_⟩
  obtain ⟨t, ht, hq⟩ := hbody cdv outer s H vs Q E (hr.deeper _) hsp
  have I : Inv (cxOf CX P w K mg base N qual (defScope st) f cdv callerA outer s H E) [] (start N vs) H s1 := inv_start S hr.hd e0 hl r x
  refine wpAny_mono (ht.run [] s1 (start N vs) H _ I hq) (fun fl s' hs => ?_) fun e s' hs => hs
  have fin : ∀ {σ' : L2.St} {H' : Hp} {v : V} {u : Value}, Inv (cxOf CX P w K mg base N qual (defScope st) f cdv callerA outer s H E) [] σ' H' s' → RelV v u → Q v H' → CE outer P w H s Q u s' :=
    fun {σ' H' v u} J rv q => ⟨v, H', J.os, J.bare, J.base, J.hok, rv, q⟩
  cases fl with
  | ret u =>
    obtain ⟨v, σ', H', J, rv, q⟩ := hs
    exact fin J rv q
  | next =>
    obtain ⟨σ', H', J, q⟩ := hs
    exact fin (v := V.non) (u := Value.none) J rfl q
  | brk =>
    obtain ⟨_, _, _, q⟩ := hs
    exact False.elim q
  | cont =>
    obtain ⟨_, _, _, q⟩ := hs
    exact False.elim q
theorem fnAtD {P : Program} {w0 : World} {K : PySem.W.Frag} {mg : Str → Option Value} {base : Heap} {adr : AdrT} {x qual : Str} {st : Stmt} {f : Addr} {fd : FuncData} {N ps : List Str} {k : Nat} {b : M Fl} (Fu : Fun K x qual st f fd) (S : FnScope N ps (defScope st)) (hr : Room (k + 1) callerA)
    (hN : ps.length ≤ N.length)
    (hb : ∀ (cdv : Value) (outer : List Env) (s : Shared) (H : Hp) (E : XK), Room k (callerA.deeper (envOfC qual (defScope st) s.heap.objs.size f cdv)) → (callerA.deeper (envOfC qual (defScope st) s.heap.objs.size f cdv)).guards = some [] →
      DSs (cxOf (MX false P w0) P w0 K mg base N qual (defScope st) f cdv callerA outer s H E) adr (fun cls d _ H => E cls d H) (defBody st) b) : FnAt P w0 K mg base (MX false P w0) f fd ps (spD K adr (mfn N.length ps.length b)) := by
  have hmf : ∀ ss, mfn N.length ps.length b ss ≠ .bad → ss.length = ps.length ∧ mfn N.length ps.length b ss = fnRun N.length b ss := fun ss h => by
    unfold mfn at h ⊢
    by_cases c : ss.length = ps.length
    · exact ⟨c, by rw [if_pos c]⟩
    · rw [if_neg c] at h; exact absurd rfl h
  refine fnAt_of Fu S hr (fun vs H Q E h => ?_) (fun cdv outer s H vs Q E hr h => ?_)
  · obtain ⟨F, w, ss, P, h⟩ := h
    rw [P.len]
    refine (hmf ss fun z => ?_).1
    rw [z] at h; exact h
  · obtain ⟨F, w, ss, P, h⟩ := h
    have hne : mfn N.length ps.length b ss ≠ .bad := fun z => by rw [z] at h; exact h
    obtain ⟨hl, em⟩ := hmf ss hne
    rw [em] at h
    obtain ⟨t, pt, q⟩ := hb cdv outer s H E hr rfl
    refine ⟨t, pt, q (cWd K adr w vs ss F H) _ _ F H _ ⟨rfl, rfl⟩ (P.start (N := N) (by omega)) ?_⟩
    unfold fnRun at h
    cases e : b (ss ++ List.replicate (N.length - ss.length) .no) with
    | bad => rw [e] at h; exact h
    | exc c d ρ =>
      rw [e] at h
      exact fun σ cls dx F' H' s R x => h cls dx F' H' σ ρ R x rfl
    | ok fl ρ =>
      rw [e] at h
      intro F' H' s
      cases fl with
      | nx => exact fun σ R => h _ F' H' σ ρ (R.pushFrz (d := .non) rfl) (fun z => z) (fun z => nomatch z) rfl
      | bk => exact h.elim
      | ct => exact h.elim
      | rt s => exact fun σ v R h1 h2 => h v F' H' σ ρ R h1 h2 rfl
theorem law_callG {P : Program} {w : World} {K : PySem.W.Frag} {mg mb : Str → Option Value} {CX : CXT} {fa a : Addr} {fd : FuncData} {x : Str} {sp : Sp} {s₁ : Shared} {vs : List Value} {ns : List Int}
    (KX : K.In s₁.heap) (hns : s₁.heap.Ns mainGlobals mg) (hb : s₁.heap.Ns builtinsNs mb) (hbb : ∀ x : Str, x ≠ "__name__" → mb x = bootBuiltins x) (hlim : s₁.heap.NoLimit) (hg : s₁.gens = #[])
    (ha : s₁.heap.get? a = some { cls := .type "list", data := .seq vs.toArray }) (hi : IntsAre vs ns) (hl : ns.length ≤ sizeLine) 
    (F : ∀ base : Heap, K.In base → base.Ns mainGlobals mg → FnAt P w K mg base CX fa fd [x] sp) (hbind : ∀ (s : Shared) (u : Value), BindsTo s fd ⟨[u], []⟩ [(x, u)])
    (hsp : ∀ H : Hp, Only H → SqL K H a (ns.map V.int) → sp [.ref a] H (fun v _ => v = .bl true) fun _ _ _ => False)
    (hCX : ∀ H e s', CX [] H s₁ (fun _ _ _ => False) e s' → False) :
    codeAny (model P w) callerA (.call (.ref fa) ⟨[.ref a], []⟩) (fun r s' => r = .ok (.ret (.bool true)) ∧ OldK s₁.heap s'.heap ∧ s'.os = s₁.os ∧ AllBare s'.gens) s₁ := by
  have rv := vals_ints hi
  have lenV := hi.length
  -- from an abstract heap in which nothing but the script may be tracked
  have core : ∀ H : Hp, Only H → SqL K H a (ns.map V.int) → HOk P w H s₁.heap → (∀ b, H b ≠ none → b = a) → (H a ≠ none → K.lookup a = none) →
      codeAny (model P w) callerA (.call (.ref fa) ⟨[.ref a], []⟩) (fun r s' => r = .ok (.ret (.bool true)) ∧ OldK s₁.heap s'.heap ∧ s'.os = s₁.os ∧ AllBare s'.gens) s₁ := by
    intro H hO hS hok hA hK
    have base_of : ∀ {b : Addr} {o : Obj}, s₁.heap.get? b = some o → H b = none → (hidT s₁.heap H).get? b = some o := fun e n => hidT_get e n
    have noA : ∀ {b : Addr} {o : Obj} {es : Array DictEntry} {ep : Nat}, s₁.heap.get? b = some o → o.data = .dict es ep → H b = none := fun {b o es ep} e d => by
      cases q : H b with
      | none => rfl
      | some u =>
        have e' : b = a := hA b (by rw [q]; simp)
        subst e'
        rw [ha] at e; cases e
        have d' : Data.seq vs.toArray _ = Data.dict es ep := d
        cases d'
    have nsK : ∀ {b : Addr} {m : Str → Option Value}, s₁.heap.Ns b m → (hidT s₁.heap H).Ns b m := fun {b m} ⟨o, es, ep, e, d, r⟩ => ⟨o, es, ep, base_of e (noA e d), d, r⟩
    have hKb : K.In (hidT s₁.heap H) := fun b o e => base_of (KX b o e) (by
      cases q : H b with
      | none => rfl
      | some u =>
        have e' : b = a := hA b (by rw [q]; simp)
        subst e'
        rw [hK (by rw [q]; simp)] at e; cases e)
    have hM : Mod K mg (hidT s₁.heap H) := ⟨hKb, nsK hns, ⟨mb, nsK hb, hbb⟩, let ⟨mc, h1, h2⟩ := hlim; ⟨mc, nsK h1, h2⟩⟩
    have e0 : Env0 P w K mg (hidT s₁.heap H) callerA [] s₁ H := ⟨rfl, hM, fun b o e => of_hidT e, Nat.le_of_eq (hidT_size _ _), trivial, fun b hb => absurd (show b ∈ ([] : List Addr) from hb) (by simp), hok, .of_eq hg⟩
    refine codeAny_mono (F _ hKb (nsK hns) [] s₁ H ⟨[.ref a], []⟩ [.ref a] [.ref a] _ _ e0 (hbind s₁ (.ref a)) (.cons rfl .nil) (hsp H hO hS)) fun r s' h => ?_
    cases r with
    | error e => exact (hCX H e s' h).elim
    | ok fl =>
      cases fl with
      | next => exact False.elim h
      | brk => exact False.elim h
      | cont => exact False.elim h
      | ret u =>
        obtain ⟨v, H', os, bare, un, hok', r', q⟩ := h
        have q' : v = .bl true := q
        subst q'
        obtain rfl : u = Value.bool true := r'
        refine ⟨rfl, OldK.of_keep fun b o e => ?_, os, bare⟩
        cases q : H b with
        | none => exact un.keep b o e q (by intro z; exact absurd (show b ∈ ([] : List Addr) from z) (by simp)) (by simp)
        | some u =>
          rcases hO b with z | ⟨ob, xs, z⟩
          · rw [q] at z; cases z
          · have z2 := un.frzs b ob _ z
            obtain ⟨e1, _⟩ := hok b _ z
            obtain ⟨e2, _⟩ := hok' b _ z2
            rw [e] at e1; cases e1
            exact e2
  cases hk : K.lookup a with
  | some o =>
    -- the script is one of the module's own objects
    have e := KX a o hk
    rw [ha] at e
    cases e
    refine core (fun _ => none) (fun _ => .inl rfl) (.inr ⟨_, vs.toArray, _, hk, rfl, rfl, rfl, by rw [List.size_toArray, lenV]; exact hl, by simpa using rv⟩) (fun b u z => by have z' : (none : Option HO) = some u := z; cases z') (fun b z => absurd rfl z) fun z => absurd rfl z
  | none =>
    refine core (fun b => if b = a then some (.frz { cls := .type "list", data := .seq vs.toArray } (.lst (ns.map V.int))) else none) (fun b => ?_) (.inl (.inr ⟨{ cls := .type "list", data := .seq vs.toArray }, if_pos rfl⟩)) (fun b u z => ?_) (fun b z => ?_) fun _ => hk
    · by_cases hb : b = a
      · exact .inr ⟨_, _, if_pos hb⟩
      · exact .inl (if_neg hb)
    · by_cases hb : b = a
      · have z' := (if_pos hb).symm.trans z
        cases z'
        subst hb
        exact ⟨ha, by rw [List.length_map]; exact hl, vs, _, rv, ha⟩
      · have z' := (if_neg hb).symm.trans z
        cases z'
    · by_cases hb : b = a
      · exact hb
      · exact absurd (if_neg hb) z
theorem walk_lawG {l : PySem.W.OpenLaw} {n : Nat} {q : Program} {loose : List Str} {XP : (Str → Option Value) → Heap → Prop} {YP : World → Heap → Prop} {dr : DefRec} (most : l.most = some n) (line : n ≤ sizeLine) (nod : dr.params.defaults = []) 
    (get : ∀ (w : World) (mg : Str → Option Value) (fa : Addr) (h : Heap), YP w h → h.Ns mainGlobals mg → mg dr.name = some (.ref fa) → ∃ (K : Fg) (fd : FuncData) (adr : AdrT) (f : Fn), K.In h ∧ (∀ (s : Shared) (u : Value), BindsTo s fd ⟨[u], []⟩ [("script", u)]) ∧
      (∀ ns : List Int, ns.length ≤ n → f [.frz (.scr ns)] = .ok (.frz (.bl true)) []) ∧ ∀ base : Heap, K.In base → base.Ns mainGlobals mg → FnAt l.prog w K mg base (L2.CX l.prog w) fa fd ["script"] (spD K adr f)) : PySem.W.WalkO q loose XP YP l.row.toRowW dr [] (fun f vs => PySem.call f vs) := by
  refine Att.attach_call most nod ?_
  intro w sa sb mg mb fa o pm cd doc a vs ns G Y ho hd hcd hmg hobj hints hlen hg
  obtain ⟨K, fd, adr, f, KX, hb, hf, hF⟩ := get w mg fa _ Y G.T.g hmg
  refine law_callG KX G.T.g G.T.b G.T.builtins G.T.nolimit hg hobj hints (Nat.le_trans hlen line) hF hb ?_ ?_
  · exact fun H _ hS => spLaw_ok (n := n) hf hlen hS fun _ => rfl
  · exact fun H e s' ⟨_, _, _, _, _, _, _, _, _, _, _, _, z⟩ => z
end DL

set_option maxHeartbeats 4000000
namespace DL
open PySem L2 PyProof.Rows
def topS (i : Nat) : Stmt := PySem.Challenge.pw_stridelanes_k80_errors_made.main.body.getD i (.Pass ⟨0, 0, 0, 0⟩)
abbrev s_law_bag : Stmt := topS 16
abbrev s_law_draw : Stmt := topS 17
abbrev s_law_made : Stmt := topS 18
abbrev s_law_flags : Stmt := topS 19
abbrev s_law : Stmt := topS 20
structure Ad where
  (law_bag law_draw law_made law_flags law xD xf : Addr)
def tys : List TyT := [.ty "NoneType", .ty "bool", .ty "int", .ty "str", .ty "tuple", .ty "list"]
def ecs : List Nat := [15, 17, 14, 11, 12, 16, 18, 13, 21, 22, 20, 10, 19, 23]
structure Tx (P : Program) (w0 : World) (K : PySem.W.Frag) (mg : Str → Option Value) (base : Heap) (adr : AdrT) (A : Ad) : Prop where
  f_law_bag : ∃ fd, Fun K "_law_bag" "_law_bag" s_law_bag A.law_bag fd
  g__law_bag : mg "_law_bag" = some (.ref A.law_bag)
  k_law_bag : PySem.W.keepIn K (.ref A.law_bag) = true
  f_law_draw : ∃ fd, Fun K "_law_draw" "_law_draw" s_law_draw A.law_draw fd
  g__law_draw : mg "_law_draw" = some (.ref A.law_draw)
  k_law_draw : PySem.W.keepIn K (.ref A.law_draw) = true
  f_law_made : ∃ fd, Fun K "_law_made" "_law_made" s_law_made A.law_made fd
  g__law_made : mg "_law_made" = some (.ref A.law_made)
  k_law_made : PySem.W.keepIn K (.ref A.law_made) = true
  f_law_flags : ∃ fd, Fun K "_law_flags" "_law_flags" s_law_flags A.law_flags fd
  g__law_flags : mg "_law_flags" = some (.ref A.law_flags)
  k_law_flags : PySem.W.keepIn K (.ref A.law_flags) = true
  f_law : ∃ fd, Fun K "law" "law" s_law A.law fd
  g_law : mg "law" = some (.ref A.law)
  k_law : PySem.W.keepIn K (.ref A.law) = true
  cs : ∀ k, .own k ∈ tys → InsT K (adr k)
  xF : ExF P w0 K mg base A.xD A.xf
  g_InvalidAccess : mg "InvalidAccess" = some (.ref (adr 15))
  g_InvalidArray : mg "InvalidArray" = some (.ref (adr 17))
  g_InvalidBarrier : mg "InvalidBarrier" = some (.ref (adr 14))
  g_InvalidGuard : mg "InvalidGuard" = some (.ref (adr 11))
  g_InvalidLanes : mg "InvalidLanes" = some (.ref (adr 12))
  g_InvalidNumber : mg "InvalidNumber" = some (.ref (adr 16))
  g_InvalidSchedule : mg "InvalidSchedule" = some (.ref (adr 18))
  g_InvalidStatement : mg "InvalidStatement" = some (.ref (adr 13))
  g_NotPlain : mg "NotPlain" = some (.ref (adr 21))
  g_NothingToUndo : mg "NothingToUndo" = some (.ref (adr 22))
  g_Racing : mg "Racing" = some (.ref (adr 20))
  g_StrideError : mg "StrideError" = some (.ref (adr 10))
  g_UnlikeLanes : mg "UnlikeLanes" = some (.ref (adr 19))
  g_Unreadable : mg "Unreadable" = some (.ref (adr 23))
  x_InvalidAccess : ExK K mg (adr 15) A.xD A.xf "InvalidAccess"
  x_InvalidArray : ExK K mg (adr 17) A.xD A.xf "InvalidArray"
  x_InvalidBarrier : ExK K mg (adr 14) A.xD A.xf "InvalidBarrier"
  x_InvalidGuard : ExK K mg (adr 11) A.xD A.xf "InvalidGuard"
  x_InvalidLanes : ExK K mg (adr 12) A.xD A.xf "InvalidLanes"
  x_InvalidNumber : ExK K mg (adr 16) A.xD A.xf "InvalidNumber"
  x_InvalidSchedule : ExK K mg (adr 18) A.xD A.xf "InvalidSchedule"
  x_InvalidStatement : ExK K mg (adr 13) A.xD A.xf "InvalidStatement"
  x_NotPlain : ExK K mg (adr 21) A.xD A.xf "NotPlain"
  x_NothingToUndo : ExK K mg (adr 22) A.xD A.xf "NothingToUndo"
  x_Racing : ExK K mg (adr 20) A.xD A.xf "Racing"
  x_StrideError : ExK K mg (adr 10) A.xD A.xf "StrideError"
  x_UnlikeLanes : ExK K mg (adr 19) A.xD A.xf "UnlikeLanes"
  x_Unreadable : ExK K mg (adr 23) A.xD A.xf "Unreadable"
  xi_ValueError : ∀ c ∈ ecs, PySem.W.kitOne K (.ref (adr c)) (.type "ValueError") = some ((fun _ => true) c)
  z_ValueError : mg "ValueError" = none
  xi_InvalidAccess : ∀ c ∈ ecs, PySem.W.kitOne K (.ref (adr c)) (.ref (adr 15)) = some ((fun c => decide (c = 15)) c)
  xi_InvalidArray : ∀ c ∈ ecs, PySem.W.kitOne K (.ref (adr c)) (.ref (adr 17)) = some ((fun c => decide (c = 17)) c)
  xi_InvalidBarrier : ∀ c ∈ ecs, PySem.W.kitOne K (.ref (adr c)) (.ref (adr 14)) = some ((fun c => decide (c = 14)) c)
  xi_InvalidGuard : ∀ c ∈ ecs, PySem.W.kitOne K (.ref (adr c)) (.ref (adr 11)) = some ((fun c => decide (c = 11)) c)
  xi_InvalidLanes : ∀ c ∈ ecs, PySem.W.kitOne K (.ref (adr c)) (.ref (adr 12)) = some ((fun c => decide (c = 12)) c)
  xi_InvalidNumber : ∀ c ∈ ecs, PySem.W.kitOne K (.ref (adr c)) (.ref (adr 16)) = some ((fun c => decide (c = 16)) c)
  xi_InvalidSchedule : ∀ c ∈ ecs, PySem.W.kitOne K (.ref (adr c)) (.ref (adr 18)) = some ((fun c => decide (c = 18)) c)
  xi_InvalidStatement : ∀ c ∈ ecs, PySem.W.kitOne K (.ref (adr c)) (.ref (adr 13)) = some ((fun c => decide (c = 13)) c)
  xi_NotPlain : ∀ c ∈ ecs, PySem.W.kitOne K (.ref (adr c)) (.ref (adr 21)) = some ((fun c => decide (c = 21)) c)
  xi_NothingToUndo : ∀ c ∈ ecs, PySem.W.kitOne K (.ref (adr c)) (.ref (adr 22)) = some ((fun c => decide (c = 22)) c)
  xi_Racing : ∀ c ∈ ecs, PySem.W.kitOne K (.ref (adr c)) (.ref (adr 20)) = some ((fun c => decide (c = 20)) c)
  xi_StrideError : ∀ c ∈ ecs, PySem.W.kitOne K (.ref (adr c)) (.ref (adr 10)) = some ((fun _ => true) c)
  xi_UnlikeLanes : ∀ c ∈ ecs, PySem.W.kitOne K (.ref (adr c)) (.ref (adr 19)) = some ((fun c => decide (c = 19)) c)
  xi_Unreadable : ∀ c ∈ ecs, PySem.W.kitOne K (.ref (adr c)) (.ref (adr 23)) = some ((fun c => decide (c = 23)) c)
  xf : ∀ c ∈ ecs, L2.XfC K (adr c)
  xv : ∀ c ∈ ecs, PySem.W.findIn K (.ref (adr c)) "value" = some none
  xc : ∀ c ∈ ecs, L2.ExcC K (adr c)
  xb : ∀ c ∈ ecs, PySem.W.subIn K (.ref (adr c)) (.type "BaseException") = some true
  z_abs : mg "abs" = none
  z_isinstance : mg "isinstance" = none
  z_len : mg "len" = none
  z_min : mg "min" = none
  z_range : mg "range" = none
  z_repr : mg "repr" = none
end DL

set_option maxHeartbeats 4000000
namespace DL
open PySem L2 PyProof.Rows
noncomputable def m_law_bag : M Fl := sSeq (sPar 1 2 (xD (eC (.int 11))) (xLst (aNil))) (sSeq (sFor (gN 3) (iAny (eVar 0)) (sSeq (sSet 1 (xD (e2 fMod (e2 fAdd (e2 fMul (eVar 1) (eC (.int 1000003))) (eVar 3)) (eC (.int 2305843009213693951))))) (sIf (bE (e2 fGe (eB fAbs (aCons (eVar 3) (aNil))) (e2 fPow (eC (.int 10)) (eC (.int 18))))) (sDrop (lstM 2 (aCons (eB fAbs (aCons (eVar 3) (aNil))) (aNil)) mApp)) (sNx)))) (sRet (xBag 2 1)))
noncomputable def F_law_bag : Fn := mfn 4 1 m_law_bag
noncomputable def m_law_draw : M Fl := sSeq (sIf (bAnd (bE (e2 fLt (eBag 0 .left) (eVar 1))) (bE (e2 fGt (eBagLen 0) (eC (.int 0))))) (sBagPut 0 .left (eBagPop 0)) (sNx)) (sSeq (sIf (bE (e2 fGe (eBag 0 .left) (eVar 1))) (sSeq (sSet 2 (xD (e2 fMod (eBag 0 .left) (eVar 1)))) (sSeq (sBagPut 0 .left (e2 fDiv (eBag 0 .left) (eVar 1))) (sRet (xD (eVar 2))))) (sNx)) (sSeq (sBagAug 0 .turn (eC (.int 1))) (sSeq (sSet 3 (xD (eBag 0 .turn))) (sSeq (sSet 4 (xD (e2 fAdd (e2 fMul (e2 fAdd (eBag 0 .blend) (e2 fMul (eC (.int 17)) (eVar 3))) (e2 fPow (e2 fAdd (eVar 3) (eC (.int 29))) (eC (.int 2)))) (e2 fMul (eC (.int 7919)) (eVar 3))))) (sRet (xD (e2 fMod (e2 fDiv (e2 fMod (e2 fPow (e2 fMod (eVar 4) (eC (.int 2305843009213693951))) (eC (.int 3))) (e2 fAdd (e2 fPow (eC (.int 10)) (eC (.int 18))) (eC (.int 9)))) (eC (.int 64))) (eVar 1))))))))
noncomputable def F_law_draw : Fn := mfn 5 2 m_law_draw
noncomputable def m_law_flags : M Fl := sSeq (sSet 1 (xLst (aCons (e1 (fExIs ecs (fun c => decide (c = 11))) (eVar 0)) (aCons (e1 (fExIs ecs (fun c => decide (c = 12))) (eVar 0)) (aCons (e1 (fExIs ecs (fun c => decide (c = 13))) (eVar 0)) (aNil)))))) (sSeq (sDrop (lstM 1 (aCons (fz (xLst (aCons (e1 (fExIs ecs (fun c => decide (c = 14))) (eVar 0)) (aCons (e1 (fExIs ecs (fun c => decide (c = 15))) (eVar 0)) (aCons (e1 (fExIs ecs (fun c => decide (c = 16))) (eVar 0)) (aNil)))))) (aNil)) mExt)) (sSeq (sDrop (lstM 1 (aCons (fz (xLst (aCons (e1 (fExIs ecs (fun c => decide (c = 17))) (eVar 0)) (aCons (e1 (fExIs ecs (fun c => decide (c = 18))) (eVar 0)) (aCons (e1 (fExIs ecs (fun c => decide (c = 19))) (eVar 0)) (aNil)))))) (aNil)) mExt)) (sSeq (sDrop (lstM 1 (aCons (fz (xLst (aCons (e1 (fExIs ecs (fun c => decide (c = 20))) (eVar 0)) (aCons (e1 (fExIs ecs (fun c => decide (c = 21))) (eVar 0)) (aCons (e1 (fExIs ecs (fun c => decide (c = 22))) (eVar 0)) (aNil)))))) (aNil)) mExt)) (sSeq (sDrop (lstM 1 (aCons (e1 (fExIs ecs (fun c => decide (c = 23))) (eVar 0)) (aNil)) mApp)) (sRet (eMov 1))))))
noncomputable def F_law_flags : Fn := mfn 2 1 m_law_flags
noncomputable def m_law_made : M Fl := sSeq (sSet 1 (xLst (aCons (eTup (aCons (eMkE 11 (aCons (eVar 0) (aNil))) (aCons (eMkEK 11 (eVar 0)) (aNil)))) (aCons (eTup (aCons (eMkE 12 (aCons (eVar 0) (aNil))) (aCons (eMkEK 12 (eVar 0)) (aNil)))) (aNil))))) (sSeq (sDrop (lstM 1 (aCons (eTup (aCons (eMkE 13 (aCons (eVar 0) (aNil))) (aCons (eMkEK 13 (eVar 0)) (aNil)))) (aNil)) mApp)) (sSeq (sDrop (lstM 1 (aCons (eTup (aCons (eMkE 14 (aCons (eVar 0) (aNil))) (aCons (eMkEK 14 (eVar 0)) (aNil)))) (aNil)) mApp)) (sSeq (sDrop (lstM 1 (aCons (eTup (aCons (eMkE 15 (aCons (eVar 0) (aNil))) (aCons (eMkEK 15 (eVar 0)) (aNil)))) (aNil)) mApp)) (sSeq (sDrop (lstM 1 (aCons (eTup (aCons (eMkE 16 (aCons (eVar 0) (aNil))) (aCons (eMkEK 16 (eVar 0)) (aNil)))) (aNil)) mApp)) (sSeq (sDrop (lstM 1 (aCons (eTup (aCons (eMkE 17 (aCons (eVar 0) (aNil))) (aCons (eMkEK 17 (eVar 0)) (aNil)))) (aNil)) mApp)) (sSeq (sDrop (lstM 1 (aCons (eTup (aCons (eMkE 18 (aCons (eVar 0) (aNil))) (aCons (eMkEK 18 (eVar 0)) (aNil)))) (aNil)) mApp)) (sSeq (sDrop (lstM 1 (aCons (eTup (aCons (eMkE 19 (aCons (eVar 0) (aNil))) (aCons (eMkEK 19 (eVar 0)) (aNil)))) (aNil)) mApp)) (sSeq (sDrop (lstM 1 (aCons (eTup (aCons (eMkE 20 (aCons (eVar 0) (aNil))) (aCons (eMkEK 20 (eVar 0)) (aNil)))) (aNil)) mApp)) (sSeq (sDrop (lstM 1 (aCons (eTup (aCons (eMkE 21 (aCons (eVar 0) (aNil))) (aCons (eMkEK 21 (eVar 0)) (aNil)))) (aNil)) mApp)) (sSeq (sDrop (lstM 1 (aCons (eTup (aCons (eMkE 22 (aCons (eVar 0) (aNil))) (aCons (eMkEK 22 (eVar 0)) (aNil)))) (aNil)) mApp)) (sSeq (sDrop (lstM 1 (aCons (eTup (aCons (eMkE 23 (aCons (eVar 0) (aNil))) (aCons (eMkEK 23 (eVar 0)) (aNil)))) (aNil)) mApp)) (sRet (eMov 1)))))))))))))
noncomputable def F_law_made : Fn := mfn 2 1 m_law_made
noncomputable def m_law : M Fl := sSeq (sSet 1 (xC F_law_bag [] (rD (eVar 0) (rNil)))) (sSeq (sFor (gN 2) (iR1 (aCons (e2 fAdd (eC (.int 4)) (eB fMin (aCons (eC (.int 8)) (aCons (eB fLen (aCons (eVar 0) (aNil))) (aNil))))) (aNil))) (sSeq (sSet 3 (xD (e2 fIx (eTup (aCons (eC .non) (aCons (eTup (aCons (eC (.int 0)) (aCons (eC (.int 1)) (aCons (eC (.int 2)) (aCons (eC (.int 3)) (aNil)))))) (aCons (eC (.str "text")) (aCons (fz (xC F_law_draw [] (rIo 1 (rD (e2 fPow (eC (.int 10)) (eC (.int 20))) (rNil))))) (aCons (eTup (aCons (eC (.int 0)) (aCons (eC (.int 2)) (aNil)))) (aCons (e1 fNeg (eC (.int 1))) (aNil)))))))) (fz (xC F_law_draw [] (rIo 1 (rD (eC (.int 6)) (rNil)))))))) (sSeq (sSet 4 (xD (fz (xC F_law_made [] (rD (eVar 3) (rNil)))))) (sSeq (sFor (gN 5) (iR1 (aCons (eC (.int 13)) (aNil))) (sFor (gN 6) (iAny (e2 fIx (eVar 4) (eVar 5))) (sSeq (sIf (bOr (bE (e2 fNe (eB fRepr (aCons (e1 (fXv ecs) (eVar 6)) (aNil))) (eB fRepr (aCons (eVar 3) (aNil))))) (bOr (bNot (bE (e1 (fExIs ecs (fun _ => true)) (eVar 6)))) (bNot (bE (e1 (fExIs ecs (fun _ => true)) (eVar 6)))))) (sRet (xD (eC (.bl false)))) (sNx)) (sIf (bE (e2 fNe (fz (xC F_law_flags [] (rD (eVar 6) (rNil)))) (fz (xLc [7] (iR1 (aCons (eC (.int 13)) (aNil))) (gN 7) (mYes) (e2 fEq (eVar 7) (eVar 5)))))) (sRet (xD (eC (.bl false)))) (sNx))))) (sIf (bOr (bE (e2 fNe (eB fRepr (aCons (e1 (fXv ecs) (eMkE 10 (aCons (eVar 3) (aNil)))) (aNil))) (eB fRepr (aCons (eVar 3) (aNil))))) (bE (e2 fNe (eB fRepr (aCons (e1 (fXv ecs) (eMkEK 10 (eVar 3))) (aNil))) (eB fRepr (aCons (eVar 3) (aNil)))))) (sRet (xD (eC (.bl false)))) (sNx)))))) (sRet (xD (e2 fEq (fz (xC F_law_flags [] (rD (eMkE 10 (aCons (eC (.str "a")) (aNil))) (rNil)))) (e2 fMul (fz (xLst (aCons (eC (.bl false)) (aNil)))) (eC (.int 13)))))))
noncomputable def F_law : Fn := mfn 8 1 m_law
section
variable {P : Program} {w0 : World} {K : PySem.W.Frag} {mg : Str → Option Value} {base : Heap} {adr : AdrT} {A : Ad}
theorem S_law_bag : FnScope ["script", "blend", "great", "cell"] ["script"] (defScope s_law_bag) := ⟨rfl, rfl, rfl, by decide +kernel, rfl, by decide +kernel, by decide +kernel⟩
theorem j_law_bag {cxm : Bool} (T : Tx P w0 K mg base adr A) : FnJ cxm P w0 K mg base adr 1 (A.law_bag) F_law_bag [] := by
  obtain ⟨fd, Fu⟩ := T.f_law_bag
  exact fnJ_of Fu S_law_bag (by decide) (Fu.binds fun _ _ _ _ _ _ us hl => match us, hl with | [_], _ => rfl) fun cdv A0 outer s H E hr => by
    have S := S_law_bag
    have tk := tkM (cxm := cxm) (X := cxOf (MX cxm P w0) P w0 K mg base ["script", "blend", "great", "cell"] "_law_bag" (defScope s_law_bag) A.law_bag cdv A0 outer s H E) rfl rfl rfl rfl
    unfold m_law_bag
    exact dss_cons (ds_par 1 2 rfl S.nd (dx_d (de_int)) (dx_lst (da_nil))) (dss_cons (ds_for (passes_of rfl) rfl (di_any (de_var 0)) (dg_name 3 S.nd) (dss_cons (ds_set 1 S.nd (dx_d (de_mod (de_add (de_mul (de_var 1) (de_int)) (de_var 3)) (de_int)))) (dss_one (ds_if (dt_ge (de_bAbs T.z_abs (da_cons (de_var 3) (da_nil))) (de_pow (de_int) (de_int))) (dss_one (ds_expr (de_app 2 (da_cons (de_bAbs T.z_abs (da_cons (de_var 3) (da_nil))) (da_nil))))) (dss_nil))))) (dss_one (ds_ret (dx_bag 2 1))))
theorem S_law_draw : FnScope ["bag", "many", "drawn", "turn", "mixed"] ["bag", "many"] (defScope s_law_draw) := ⟨rfl, rfl, rfl, by decide +kernel, rfl, by decide +kernel, by decide +kernel⟩
theorem j_law_draw {cxm : Bool} (T : Tx P w0 K mg base adr A) : FnJ cxm P w0 K mg base adr 1 (A.law_draw) F_law_draw [] := by
  obtain ⟨fd, Fu⟩ := T.f_law_draw
  exact fnJ_of Fu S_law_draw (by decide) (Fu.binds fun _ _ _ _ _ _ us hl => match us, hl with | [_, _], _ => rfl) fun cdv A0 outer s H E hr => by
    have S := S_law_draw
    have tk := tkM (cxm := cxm) (X := cxOf (MX cxm P w0) P w0 K mg base ["bag", "many", "drawn", "turn", "mixed"] "_law_draw" (defScope s_law_draw) A.law_draw cdv A0 outer s H E) rfl rfl rfl rfl
    unfold m_law_draw
    exact dss_cons (ds_if (dw_pt (dw_and (dt_lt (de_bag 0 .left (hu_of hr)) (de_var 1)) (dw_and1 (dt_gt (de_bagLen 0 (hu_of hr) rfl T.z_len) (de_int))))) (dss_one (ds_bagPut 0 .left (hu_of hr) (de_bagPop 0 (hu_of hr)))) (dss_nil)) (dss_cons (ds_if (dt_ge (de_bag 0 .left (hu_of hr)) (de_var 1)) (dss_cons (ds_set 2 S.nd (dx_d (de_mod (de_bag 0 .left (hu_of hr)) (de_var 1)))) (dss_cons (ds_bagPut 0 .left (hu_of hr) (de_div (de_bag 0 .left (hu_of hr)) (de_var 1))) (dss_one (ds_ret (dx_d (de_var 2)))))) (dss_nil)) (dss_cons (ds_bagAug 0 .turn (hu_of hr) (de_int)) (dss_cons (ds_set 3 S.nd (dx_d (de_bag 0 .turn (hu_of hr)))) (dss_cons (ds_set 4 S.nd (dx_d (de_add (de_mul (de_add (de_bag 0 .blend (hu_of hr)) (de_mul (de_int) (de_var 3))) (de_pow (de_add (de_var 3) (de_int)) (de_int))) (de_mul (de_int) (de_var 3))))) (dss_one (ds_ret (dx_d (de_mod (de_div (de_mod (de_pow (de_mod (de_var 4) (de_int)) (de_int)) (de_add (de_pow (de_int) (de_int)) (de_int))) (de_int)) (de_var 1)))))))))
theorem S_law_flags : FnScope ["e", "flags"] ["e"] (defScope s_law_flags) := ⟨rfl, rfl, rfl, by decide +kernel, rfl, by decide +kernel, by decide +kernel⟩
theorem j_law_flags {cxm : Bool} (T : Tx P w0 K mg base adr A) : FnJ cxm P w0 K mg base adr 1 (A.law_flags) F_law_flags [] := by
  obtain ⟨fd, Fu⟩ := T.f_law_flags
  exact fnJ_of Fu S_law_flags (by decide) (Fu.binds fun _ _ _ _ _ _ us hl => match us, hl with | [_], _ => rfl) fun cdv A0 outer s H E hr => by
    have S := S_law_flags
    have tk := tkM (cxm := cxm) (X := cxOf (MX cxm P w0) P w0 K mg base ["e", "flags"] "_law_flags" (defScope s_law_flags) A.law_flags cdv A0 outer s H E) rfl rfl rfl rfl
    unfold m_law_flags
    exact dss_cons (ds_set 1 S.nd (dx_lst (da_cons (de_isEx (fun c => decide (c = 11)) T.xc T.xi_InvalidGuard (de_var 0) (pe_glob (v := .ref (adr 11)) (by rfl) T.g_InvalidGuard rfl) (fun u r => r) T.z_isinstance) (da_cons (de_isEx (fun c => decide (c = 12)) T.xc T.xi_InvalidLanes (de_var 0) (pe_glob (v := .ref (adr 12)) (by rfl) T.g_InvalidLanes rfl) (fun u r => r) T.z_isinstance) (da_cons (de_isEx (fun c => decide (c = 13)) T.xc T.xi_InvalidStatement (de_var 0) (pe_glob (v := .ref (adr 13)) (by rfl) T.g_InvalidStatement rfl) (fun u r => r) T.z_isinstance) (da_nil)))))) (dss_cons (ds_expr (de_ext 1 (da_cons (de_fz (dx_lst (da_cons (de_isEx (fun c => decide (c = 14)) T.xc T.xi_InvalidBarrier (de_var 0) (pe_glob (v := .ref (adr 14)) (by rfl) T.g_InvalidBarrier rfl) (fun u r => r) T.z_isinstance) (da_cons (de_isEx (fun c => decide (c = 15)) T.xc T.xi_InvalidAccess (de_var 0) (pe_glob (v := .ref (adr 15)) (by rfl) T.g_InvalidAccess rfl) (fun u r => r) T.z_isinstance) (da_cons (de_isEx (fun c => decide (c = 16)) T.xc T.xi_InvalidNumber (de_var 0) (pe_glob (v := .ref (adr 16)) (by rfl) T.g_InvalidNumber rfl) (fun u r => r) T.z_isinstance) (da_nil)))))) (da_nil)))) (dss_cons (ds_expr (de_ext 1 (da_cons (de_fz (dx_lst (da_cons (de_isEx (fun c => decide (c = 17)) T.xc T.xi_InvalidArray (de_var 0) (pe_glob (v := .ref (adr 17)) (by rfl) T.g_InvalidArray rfl) (fun u r => r) T.z_isinstance) (da_cons (de_isEx (fun c => decide (c = 18)) T.xc T.xi_InvalidSchedule (de_var 0) (pe_glob (v := .ref (adr 18)) (by rfl) T.g_InvalidSchedule rfl) (fun u r => r) T.z_isinstance) (da_cons (de_isEx (fun c => decide (c = 19)) T.xc T.xi_UnlikeLanes (de_var 0) (pe_glob (v := .ref (adr 19)) (by rfl) T.g_UnlikeLanes rfl) (fun u r => r) T.z_isinstance) (da_nil)))))) (da_nil)))) (dss_cons (ds_expr (de_ext 1 (da_cons (de_fz (dx_lst (da_cons (de_isEx (fun c => decide (c = 20)) T.xc T.xi_Racing (de_var 0) (pe_glob (v := .ref (adr 20)) (by rfl) T.g_Racing rfl) (fun u r => r) T.z_isinstance) (da_cons (de_isEx (fun c => decide (c = 21)) T.xc T.xi_NotPlain (de_var 0) (pe_glob (v := .ref (adr 21)) (by rfl) T.g_NotPlain rfl) (fun u r => r) T.z_isinstance) (da_cons (de_isEx (fun c => decide (c = 22)) T.xc T.xi_NothingToUndo (de_var 0) (pe_glob (v := .ref (adr 22)) (by rfl) T.g_NothingToUndo rfl) (fun u r => r) T.z_isinstance) (da_nil)))))) (da_nil)))) (dss_cons (ds_expr (de_app 1 (da_cons (de_isEx (fun c => decide (c = 23)) T.xc T.xi_Unreadable (de_var 0) (pe_glob (v := .ref (adr 23)) (by rfl) T.g_Unreadable rfl) (fun u r => r) T.z_isinstance) (da_nil)))) (dss_one (ds_ret (dx_mov 1)))))))
theorem S_law_made : FnScope ["thing", "found"] ["thing"] (defScope s_law_made) := ⟨rfl, rfl, rfl, by decide +kernel, rfl, by decide +kernel, by decide +kernel⟩
theorem j_law_made {cxm : Bool} (T : Tx P w0 K mg base adr A) : FnJ cxm P w0 K mg base adr 3 (A.law_made) F_law_made [] := by
  obtain ⟨fd, Fu⟩ := T.f_law_made
  exact fnJ_of Fu S_law_made (by decide) (Fu.binds fun _ _ _ _ _ _ us hl => match us, hl with | [_], _ => rfl) fun cdv A0 outer s H E hr => by
    have S := S_law_made
    have tk := tkM (cxm := cxm) (X := cxOf (MX cxm P w0) P w0 K mg base ["thing", "found"] "_law_made" (defScope s_law_made) A.law_made cdv A0 outer s H E) rfl rfl rfl rfl
    unfold m_law_made
    exact dss_cons (ds_set 1 S.nd (dx_lst (da_cons (de_tup (da_cons (de_mkE 11 T.xF T.x_InvalidGuard (hr.mono (by decide : 2 ≤ 2)) (da_cons (de_var 0) (da_nil))) (da_cons (de_mkEK 11 T.xF T.x_InvalidGuard (hr.mono (by decide : 2 ≤ 2)) (de_var 0)) (da_nil)))) (da_cons (de_tup (da_cons (de_mkE 12 T.xF T.x_InvalidLanes (hr.mono (by decide : 2 ≤ 2)) (da_cons (de_var 0) (da_nil))) (da_cons (de_mkEK 12 T.xF T.x_InvalidLanes (hr.mono (by decide : 2 ≤ 2)) (de_var 0)) (da_nil)))) (da_nil))))) (dss_cons (ds_expr (de_app 1 (da_cons (de_tup (da_cons (de_mkE 13 T.xF T.x_InvalidStatement (hr.mono (by decide : 2 ≤ 2)) (da_cons (de_var 0) (da_nil))) (da_cons (de_mkEK 13 T.xF T.x_InvalidStatement (hr.mono (by decide : 2 ≤ 2)) (de_var 0)) (da_nil)))) (da_nil)))) (dss_cons (ds_expr (de_app 1 (da_cons (de_tup (da_cons (de_mkE 14 T.xF T.x_InvalidBarrier (hr.mono (by decide : 2 ≤ 2)) (da_cons (de_var 0) (da_nil))) (da_cons (de_mkEK 14 T.xF T.x_InvalidBarrier (hr.mono (by decide : 2 ≤ 2)) (de_var 0)) (da_nil)))) (da_nil)))) (dss_cons (ds_expr (de_app 1 (da_cons (de_tup (da_cons (de_mkE 15 T.xF T.x_InvalidAccess (hr.mono (by decide : 2 ≤ 2)) (da_cons (de_var 0) (da_nil))) (da_cons (de_mkEK 15 T.xF T.x_InvalidAccess (hr.mono (by decide : 2 ≤ 2)) (de_var 0)) (da_nil)))) (da_nil)))) (dss_cons (ds_expr (de_app 1 (da_cons (de_tup (da_cons (de_mkE 16 T.xF T.x_InvalidNumber (hr.mono (by decide : 2 ≤ 2)) (da_cons (de_var 0) (da_nil))) (da_cons (de_mkEK 16 T.xF T.x_InvalidNumber (hr.mono (by decide : 2 ≤ 2)) (de_var 0)) (da_nil)))) (da_nil)))) (dss_cons (ds_expr (de_app 1 (da_cons (de_tup (da_cons (de_mkE 17 T.xF T.x_InvalidArray (hr.mono (by decide : 2 ≤ 2)) (da_cons (de_var 0) (da_nil))) (da_cons (de_mkEK 17 T.xF T.x_InvalidArray (hr.mono (by decide : 2 ≤ 2)) (de_var 0)) (da_nil)))) (da_nil)))) (dss_cons (ds_expr (de_app 1 (da_cons (de_tup (da_cons (de_mkE 18 T.xF T.x_InvalidSchedule (hr.mono (by decide : 2 ≤ 2)) (da_cons (de_var 0) (da_nil))) (da_cons (de_mkEK 18 T.xF T.x_InvalidSchedule (hr.mono (by decide : 2 ≤ 2)) (de_var 0)) (da_nil)))) (da_nil)))) (dss_cons (ds_expr (de_app 1 (da_cons (de_tup (da_cons (de_mkE 19 T.xF T.x_UnlikeLanes (hr.mono (by decide : 2 ≤ 2)) (da_cons (de_var 0) (da_nil))) (da_cons (de_mkEK 19 T.xF T.x_UnlikeLanes (hr.mono (by decide : 2 ≤ 2)) (de_var 0)) (da_nil)))) (da_nil)))) (dss_cons (ds_expr (de_app 1 (da_cons (de_tup (da_cons (de_mkE 20 T.xF T.x_Racing (hr.mono (by decide : 2 ≤ 2)) (da_cons (de_var 0) (da_nil))) (da_cons (de_mkEK 20 T.xF T.x_Racing (hr.mono (by decide : 2 ≤ 2)) (de_var 0)) (da_nil)))) (da_nil)))) (dss_cons (ds_expr (de_app 1 (da_cons (de_tup (da_cons (de_mkE 21 T.xF T.x_NotPlain (hr.mono (by decide : 2 ≤ 2)) (da_cons (de_var 0) (da_nil))) (da_cons (de_mkEK 21 T.xF T.x_NotPlain (hr.mono (by decide : 2 ≤ 2)) (de_var 0)) (da_nil)))) (da_nil)))) (dss_cons (ds_expr (de_app 1 (da_cons (de_tup (da_cons (de_mkE 22 T.xF T.x_NothingToUndo (hr.mono (by decide : 2 ≤ 2)) (da_cons (de_var 0) (da_nil))) (da_cons (de_mkEK 22 T.xF T.x_NothingToUndo (hr.mono (by decide : 2 ≤ 2)) (de_var 0)) (da_nil)))) (da_nil)))) (dss_cons (ds_expr (de_app 1 (da_cons (de_tup (da_cons (de_mkE 23 T.xF T.x_Unreadable (hr.mono (by decide : 2 ≤ 2)) (da_cons (de_var 0) (da_nil))) (da_cons (de_mkEK 23 T.xF T.x_Unreadable (hr.mono (by decide : 2 ≤ 2)) (de_var 0)) (da_nil)))) (da_nil)))) (dss_one (ds_ret (dx_mov 1))))))))))))))
theorem S_law : FnScope ["script", "bag", "turn", "thing", "made", "place", "e", "spot"] ["script"] (defScope s_law) := ⟨rfl, rfl, rfl, by decide +kernel, rfl, by decide +kernel, by decide +kernel⟩
theorem b_law {cxm : Bool} (T : Tx P w0 K mg base adr A) : ∀ (cdv : Value) (A0 : Around) (outer : List Env) (s : Shared) (H : Hp) (E : XK), Room 5 (A0.deeper (envOfC "law" (defScope s_law) s.heap.objs.size A.law cdv)) → (A0.deeper (envOfC "law" (defScope s_law) s.heap.objs.size A.law cdv)).guards = some [] → DSs (cxOf (MX cxm P w0) P w0 K mg base ["script", "bag", "turn", "thing", "made", "place", "e", "spot"] "law" (defScope s_law) A.law cdv A0 outer s H E) adr (fun cls d _ H => E cls d H) (defBody s_law) m_law := fun cdv A0 outer s H E hr hgd => by
    have S := S_law
    have tk := tkM (cxm := cxm) (X := cxOf (MX cxm P w0) P w0 K mg base ["script", "bag", "turn", "thing", "made", "place", "e", "spot"] "law" (defScope s_law) A.law cdv A0 outer s H E) rfl rfl rfl rfl
    unfold m_law
    exact dss_cons (ds_set 1 S.nd (dx_call (j_law_bag T).I (hr.mono (by decide : 1 ≤ 5)) tk T.g__law_bag T.k_law_bag (dr_d (de_var 0) (dr_nil)))) (dss_cons (ds_for (passes_of rfl) rfl (di_r1 (by rfl) T.z_range (da_cons (de_add (de_int) (de_bMin rfl T.z_min (da_cons (de_int) (da_cons (de_bLen T.z_len (da_cons (de_var 0) (da_nil))) (da_nil))))) (da_nil))) (dg_name 2 S.nd) (dss_cons (ds_set 3 S.nd (dx_d (de_ix (de_tup (da_cons (de_non) (da_cons (de_tup (da_cons (de_int) (da_cons (de_int) (da_cons (de_int) (da_cons (de_int) (da_nil)))))) (da_cons (de_str) (da_cons (de_fz (dx_call (j_law_draw T).I (hr.mono (by decide : 1 ≤ 5)) tk T.g__law_draw T.k_law_draw (dr_io 1 (dr_d (de_pow (de_int) (de_int)) (dr_nil))))) (da_cons (de_tup (da_cons (de_int) (da_cons (de_int) (da_nil)))) (da_cons (de_neg (de_int)) (da_nil)))))))) (de_fz (dx_call (j_law_draw T).I (hr.mono (by decide : 1 ≤ 5)) tk T.g__law_draw T.k_law_draw (dr_io 1 (dr_d (de_int) (dr_nil)))))))) (dss_cons (ds_set 4 S.nd (dx_d (de_fz (dx_call (j_law_made T).I (hr.mono (by decide : 3 ≤ 5)) tk T.g__law_made T.k_law_made (dr_d (de_var 3) (dr_nil)))))) (dss_cons (ds_for (passes_of rfl) rfl (di_r1 (by rfl) T.z_range (da_cons (de_int) (da_nil))) (dg_name 5 S.nd) (dss_one (ds_for (passes_of rfl) rfl (di_any (de_ix (de_var 4) (de_var 5))) (dg_name 6 S.nd) (dss_cons (ds_if (dw_pt (dw_or (dt_ne hr (de_bRepr hgd (hu65 hr) T.z_repr (da_cons (de_xv T.xf T.xv (de_var 6)) (da_nil))) (de_bRepr hgd (hu65 hr) T.z_repr (da_cons (de_var 3) (da_nil)))) (dw_or (dt_not (dt_val (de_isEx (fun _ => true) T.xc T.xi_StrideError (de_var 6) (pe_glob (v := .ref (adr 10)) (by rfl) T.g_StrideError rfl) (fun u r => r) T.z_isinstance))) (dw_or1 (dt_not (dt_val (de_isEx (fun _ => true) T.xc T.xi_ValueError (de_var 6) (pe_bltn (v := .ty "ValueError") (by rfl) T.z_ValueError (by decide +kernel) rfl (by decide) (by decide)) (fun u r => r) T.z_isinstance))))))) (dss_one (ds_ret (dx_d (de_bl)))) (dss_nil)) (dss_one (ds_if (dt_ne hr (de_fz (dx_call (j_law_flags T).I (hr.mono (by decide : 1 ≤ 5)) tk T.g__law_flags T.k_law_flags (dr_d (de_var 6) (dr_nil)))) (de_fz (dx_lc rfl S.nd (di_r1 (by rfl) T.z_range (da_cons (de_int) (da_nil))) (own := [("spot", 7)]) (blkOk_by (N := ["script", "bag", "turn", "thing", "made", "place", "e", "spot"]) (sc := defScope s_law) (by decide +kernel)) (fun _ _ _ _ _ => dgw_name 7 S.nd) (fun _ _ _ _ _ => dts_nil) (fun _ _ _ _ _ => de_eq hr (de_var 7) (de_var 5))))) (dss_one (ds_ret (dx_d (de_bl)))) (dss_nil))))))) (dss_one (ds_if (dw_pt (dw_or (dt_ne hr (de_bRepr hgd (hu65 hr) T.z_repr (da_cons (de_xv T.xf T.xv (de_mkE 10 T.xF T.x_StrideError (hr.mono (by decide : 2 ≤ 5)) (da_cons (de_var 3) (da_nil)))) (da_nil))) (de_bRepr hgd (hu65 hr) T.z_repr (da_cons (de_var 3) (da_nil)))) (dw_or1 (dt_ne hr (de_bRepr hgd (hu65 hr) T.z_repr (da_cons (de_xv T.xf T.xv (de_mkEK 10 T.xF T.x_StrideError (hr.mono (by decide : 2 ≤ 5)) (de_var 3))) (da_nil))) (de_bRepr hgd (hu65 hr) T.z_repr (da_cons (de_var 3) (da_nil))))))) (dss_one (ds_ret (dx_d (de_bl)))) (dss_nil))))))) (dss_one (ds_ret (dx_d (de_eq hr (de_fz (dx_call (j_law_flags T).I (hr.mono (by decide : 1 ≤ 5)) tk T.g__law_flags T.k_law_flags (dr_d (de_mkE 10 T.xF T.x_StrideError (hr.mono (by decide : 2 ≤ 5)) (da_cons (de_str) (da_nil))) (dr_nil)))) (de_mul (de_fz (dx_lst (da_cons (de_bl) (da_nil)))) (de_int)))))))

end
end DL

set_option maxHeartbeats 4000000
namespace DL
open PySem L2
def condB {α : Type} (d : D) (A B : Res α) : Res α := match d with | .bl b => if b = true then A else B | _ => .bad
@[simp] theorem condB_bl {α : Type} (b : Bool) (A B : Res α) : condB (.bl b) A B = if b = true then A else B := rfl
theorem eAnd_def (ma mb : M D) (ρ : List Slot) : eAnd ma mb ρ = (ma ρ).bind fun x ρ1 => condB x (mb ρ1) (.ok (.bl false) ρ1) := by
  unfold eAnd condB; cases ma ρ with
  | ok d ρ1 => cases d <;> first | rfl | (rename_i b; cases b <;> rfl)
  | _ => rfl
theorem eOr_def (ma mb : M D) (ρ : List Slot) : eOr ma mb ρ = (ma ρ).bind fun x ρ1 => condB x (.ok (.bl true) ρ1) (mb ρ1) := by
  unfold eOr condB; cases ma ρ with
  | ok d ρ1 => cases d <;> first | rfl | (rename_i b; cases b <;> rfl)
  | _ => rfl
def optK {α β : Type} (o : Option α) (k : α → Res β) : Res β := match o with | some a => k a | none => .bad
@[simp] theorem optK_some {α β : Type} (a : α) (k : α → Res β) : optK (some a) k = k a := rfl
@[simp] theorem optK_none {α β : Type} (k : α → Res β) : optK (none : Option α) k = .bad := rfl
theorem opt_eq {α : Type} (o : Option α) (ρ : List Slot) : opt o ρ = optK o fun a => .ok a ρ := by cases o <;> rfl
@[simp] theorem opt_some' {α : Type} (a : α) (ρ : List Slot) : opt (some a) ρ = .ok a ρ := rfl
theorem eCh_def (f g : D → D → Option D) (ma mb mc : M D) (ρ : List Slot) : eCh f g ma mb mc ρ = (ma ρ).bind fun x ρ1 => (mb ρ1).bind fun y ρ2 => optK (f x y) fun d => condB d ((mc ρ2).bind fun z ρ3 => opt (g y z) ρ3) (.ok (.bl false) ρ2) := by
  unfold eCh
  cases ma ρ with
  | ok x ρ1 =>
    simp only [Res.bind_ok]
    cases mb ρ1 with
    | ok y ρ2 =>
      simp only [Res.bind_ok]
      cases f x y with
      | none => rfl
      | some d => cases d <;> first | rfl | (rename_i b; cases b <;> rfl)
    | _ => rfl
  | _ => rfl
def isBl {α : Type} (d : D) (k : Bool → Res α) : Res α := match d with | .bl b => k b | _ => .bad
@[simp] theorem isBl_bl {α : Type} (b : Bool) (k : Bool → Res α) : isBl (.bl b) k = k b := rfl
theorem bE_def (m : M D) (ρ : List Slot) : bE m ρ = (m ρ).bind fun x ρ1 => isBl x fun b => .ok b ρ1 := by
  unfold bE isBl; cases m ρ with
  | ok d ρ1 => cases d <;> rfl
  | _ => rfl
@[simp] theorem ite_bind {α β : Type} (c : Prop) [Decidable c] (A B : Res α) (k : α → M β) : (if c then A else B).bind k = if c then A.bind k else B.bind k := by split <;> rfl
@[simp] theorem ite_ok_bl {α : Type} (b : Bool) (k : Bool → Res α) : (if b = true then k true else k false) = k b := by cases b <;> rfl
def endF (ss : List Slot) : Res Fl → FR
  | .ok (.rt s) ρ => .ok s (outs ss ρ)
  | .ok .nx ρ => .ok (.frz .non) (outs ss ρ)
  | .exc c d ρ => .exc c d (outs ss ρ)
  | _ => .bad
theorem fnRun_def (n : Nat) (b : M Fl) (ss : List Slot) : fnRun n b ss = endF ss (b (ss ++ List.replicate (n - ss.length) .no)) := by
  unfold fnRun endF; rfl
@[simp] theorem endF_ite (ss : List Slot) (c : Prop) [Decidable c] (A B : Res Fl) : endF ss (if c then A else B) = if c then endF ss A else endF ss B := by split <;> rfl
@[simp] theorem endF_rt (ss : List Slot) (s : Slot) (ρ : List Slot) : endF ss (.ok (.rt s) ρ) = .ok s (outs ss ρ) := rfl
@[simp] theorem endF_nx (ss : List Slot) (ρ : List Slot) : endF ss (.ok .nx ρ) = .ok (.frz .non) (outs ss ρ) := rfl
@[simp] theorem endF_bad (ss : List Slot) : endF ss .bad = .bad := rfl
theorem eVar_frz {ρ : List Slot} {i : Nat} {d : D} (h : ρ[i]? = some (.frz d)) : eVar i ρ = .ok d ρ := by unfold eVar; rw [h]
@[simp] theorem optS_some' (ρ : List Slot) : optS (some ρ) = .ok .nx ρ := rfl
theorem setS_no {ρ : List Slot} {i : Nat} {s : Slot} (h : ρ[i]? = some .no) : setS ρ i s = some (ρ.set i s) := by unfold setS; rw [h]
theorem setS_frz {ρ : List Slot} {i : Nat} {s : Slot} {d : D} (h : ρ[i]? = some (.frz d)) : setS ρ i s = some (ρ.set i s) := by unfold setS; rw [h]
theorem setS_own {ρ : List Slot} {i : Nat} {s : Slot} {o : O} (h : ρ[i]? = some (.own o)) : setS ρ i s = some (ρ.set i s) := by unfold setS; rw [h]
def flK (m2 : M Fl) : Fl → M Fl
  | .nx => m2
  | .bk => fun ρ => .ok .bk ρ
  | .ct => fun ρ => .ok .ct ρ
  | .rt s => fun ρ => .ok (.rt s) ρ
theorem sSeq_def (m1 m2 : M Fl) (ρ : List Slot) : sSeq m1 m2 ρ = (m1 ρ).bind (flK m2) := by
  unfold sSeq; congr 1; funext fl ρ1; cases fl <;> rfl
@[simp] theorem flK_nx (m2 : M Fl) (ρ : List Slot) : flK m2 .nx ρ = m2 ρ := rfl
@[simp] theorem flK_rt (m2 : M Fl) (s : Slot) (ρ : List Slot) : flK m2 (.rt s) ρ = .ok (.rt s) ρ := rfl
@[simp] theorem flK_bk (m2 : M Fl) (ρ : List Slot) : flK m2 .bk ρ = .ok .bk ρ := rfl
@[simp] theorem flK_ct (m2 : M Fl) (ρ : List Slot) : flK m2 .ct ρ = .ok .ct ρ := rfl
@[simp] theorem fAdd_i (i j : Int) : fAdd (.int i) (.int j) = some (.int (i + j)) := rfl
@[simp] theorem fSub_i (i j : Int) : fSub (.int i) (.int j) = some (.int (i - j)) := rfl
@[simp] theorem fNeg_i (i : Int) : fNeg (.int i) = some (.int (-i)) := rfl
@[simp] theorem fNot_b (b : Bool) : fNot (.bl b) = some (.bl (!b)) := rfl
@[simp] theorem fLt_i (i j : Int) : fLt (.int i) (.int j) = some (.bl (decide (i < j))) := rfl
@[simp] theorem fLe_i (i j : Int) : fLe (.int i) (.int j) = some (.bl (decide (i ≤ j))) := rfl
@[simp] theorem fGt_i (i j : Int) : fGt (.int i) (.int j) = some (.bl (decide (j < i))) := rfl
@[simp] theorem fGe_i (i j : Int) : fGe (.int i) (.int j) = some (.bl (decide (j ≤ i))) := rfl
theorem fMod_i {i j : Int} (h : j ≠ 0) : fMod (.int i) (.int j) = some (.int (i.fmod j)) := if_pos h
def Md (n : Nat) (i : Int) : Prop := i.natAbs < 2 ^ n
theorem Md.log {n : Nat} {i : Int} (h : Md n i) (hn : 0 < n) : i.natAbs.log2 < n := by
  by_cases h0 : i.natAbs = 0
  · rw [h0]; simpa using hn
  · exact (Nat.log2_lt h0).mpr h
theorem fDiv_i {i j : Int} (h : j ≠ 0) (hj : Md 9000 j) : fDiv (.int i) (.int j) = some (.int (i.fdiv j)) := if_pos ⟨h, hj.log (by decide)⟩
theorem fMul_i {i j : Int} (hi : Md 40000 i) (hj : Md 40000 j) : fMul (.int i) (.int j) = some (.int (i * j)) := by
  have h1 := hi.log (by decide)
  have h2 := hj.log (by decide)
  exact if_pos (show i.natAbs.log2 + j.natAbs.log2 < 100000000 by omega)
theorem Md.of_le {n : Nat} {i j : Int} (h : Md n j) (hl : i.natAbs ≤ j.natAbs) : Md n i := Nat.lt_of_le_of_lt hl h
theorem Md.up {n m : Nat} {i : Int} (h : Md n i) (hm : n ≤ m) : Md m i := Nat.lt_of_lt_of_le h (Nat.pow_le_pow_right (by decide) hm)
@[simp] theorem sh_non : SeqAt.shaped PyData.none = true := by rfl
@[simp] theorem sh_int (i : Int) : SeqAt.shaped (PyData.int i) = true := by unfold SeqAt.shaped; simp [PyData.canLay0, PyData.depth]
@[simp] theorem sh_bool (b : Bool) : SeqAt.shaped (PyData.bool b) = true := by unfold SeqAt.shaped; simp [PyData.canLay0, PyData.depth]
theorem sh_str {x : Str} (h : PyData.strOk x = true) : SeqAt.shaped (PyData.str x) = true := by unfold SeqAt.shaped; simp [PyData.canLay0, PyData.depth, h]
@[simp] theorem fEq_ii (i j : Int) : fEq (.int i) (.int j) = some (.bl (decide (i = j))) := by
  unfold fEq; simp [D.py, PyData.eqv]; rfl
@[simp] theorem fNe_ii (i j : Int) : fNe (.int i) (.int j) = some (.bl (!decide (i = j))) := by
  unfold fNe; simp [D.py, PyData.eqv]; rfl
def frR (ρ : List Slot) : FR → Res Slot
  | .bad => .bad
  | .ok s _ => .ok s ρ
  | .exc c d _ => .exc c d ρ
@[simp] theorem frR_ok (ρ : List Slot) (s : Slot) (os : List O) : frR ρ (.ok s os) = .ok s ρ := rfl
@[simp] theorem frR_bad (ρ : List Slot) : frR ρ .bad = .bad := rfl
@[simp] theorem frR_exc (ρ : List Slot) (c : Nat) (d : D) (os : List O) : frR ρ (.exc c d os) = .exc c d ρ := rfl
theorem callD_eq (f : Fn) (l : List D) (ρ : List Slot) : callF f (l.map .d) ρ = frR ρ (f (l.map .frz)) := by
  have h1 : ioNodup (l.map Ar.d) = true := by induction l with
    | nil => rfl
    | cons a l ih => exact ih
  have h2 : fill ρ (l.map Ar.d) = some (l.map .frz) := by induction l with
    | nil => rfl
    | cons a l ih =>
      have h1' : ioNodup (l.map Ar.d) = true := h1
      show (fill ρ (l.map Ar.d)).map (Slot.frz a :: ·) = _
      rw [ih h1']; rfl
  have h3 : ∀ os, wb (l.map Ar.d) os ρ = some ρ := fun os => by
    clear h1 h2
    induction l with
    | nil => rfl
    | cons a l ih => exact ih
  unfold callF
  rw [if_pos h1, h2]
  simp only
  cases f (l.map Slot.frz) with
  | bad => rfl
  | ok s os => simp only [h3]; rfl
  | exc c d os => simp only [h3]; rfl
@[simp] theorem callD1 (f : Fn) (a : D) (ρ : List Slot) : callF f [.d a] ρ = frR ρ (f [.frz a]) := callD_eq f [a] ρ
@[simp] theorem callD2 (f : Fn) (a b : D) (ρ : List Slot) : callF f [.d a, .d b] ρ = frR ρ (f [.frz a, .frz b]) := callD_eq f [a, b] ρ
@[simp] theorem callD3 (f : Fn) (a b c : D) (ρ : List Slot) : callF f [.d a, .d b, .d c] ρ = frR ρ (f [.frz a, .frz b, .frz c]) := callD_eq f [a, b, c] ρ
@[simp] theorem callD4 (f : Fn) (a b c d : D) (ρ : List Slot) : callF f [.d a, .d b, .d c, .d d] ρ = frR ρ (f [.frz a, .frz b, .frz c, .frz d]) := callD_eq f [a, b, c, d] ρ
@[simp] theorem callD5 (f : Fn) (a b c d e : D) (ρ : List Slot) : callF f [.d a, .d b, .d c, .d d, .d e] ρ = frR ρ (f [.frz a, .frz b, .frz c, .frz d, .frz e]) := callD_eq f [a, b, c, d, e] ρ
theorem atI_nat' (l : List D) (n : Nat) : L2.atI l (n : Int) = l[n]? := by
  unfold L2.atI L2.ixN
  by_cases h : n < l.length
  · simp [h]
  · simp [h]
@[simp] theorem fIx_tup (l : List D) (i : Int) : fIx (.tup l) (.int i) = L2.atI l i := rfl
@[simp] theorem fIx_lst (l : List D) (i : Int) : fIx (.lst l) (.int i) = L2.atI l i := rfl
@[simp] theorem atI0 (l : List D) : L2.atI l 0 = l[0]? := atI_nat' l 0
@[simp] theorem atI1 (l : List D) : L2.atI l 1 = l[1]? := atI_nat' l 1
@[simp] theorem atI2 (l : List D) : L2.atI l 2 = l[2]? := atI_nat' l 2
@[simp] theorem atI3 (l : List D) : L2.atI l 3 = l[3]? := atI_nat' l 3
@[simp] theorem atI4 (l : List D) : L2.atI l 4 = l[4]? := atI_nat' l 4
@[simp] theorem atI5 (l : List D) : L2.atI l 5 = l[5]? := atI_nat' l 5
@[simp] theorem atI6 (l : List D) : L2.atI l 6 = l[6]? := atI_nat' l 6
@[simp] theorem atI8 (l : List D) : L2.atI l 8 = l[8]? := atI_nat' l 8
@[simp] theorem fMax_ii (i j : Int) : fMax [.int i, .int j] = some (.int (if j > i then j else i)) := rfl
@[simp] theorem fMin_ii (i j : Int) : fMin [.int i, .int j] = some (.int (if j < i then j else i)) := rfl
theorem mfn_run {n p : Nat} {b : M Fl} {ss : List Slot} (ρ0 : List Slot) (h : ss.length = p := by rfl) (h0 : ss ++ List.replicate (n - ss.length) .no = ρ0 := by rfl) : mfn n p b ss = endF ss (b ρ0) := by
  unfold mfn; rw [if_pos h, fnRun_def, h0]
end DL

set_option maxHeartbeats 4000000
namespace DL
open PySem L2
abbrev gd (l h s r : Int) : D := .tup [.int l, .int h, .int s, .int r]
def firstI (l s r : Int) : Int := l + (r - l).fmod s
def lanesI (l h s r : Int) : Int := max 0 ((h - firstI l s r + s - 1).fdiv s)
end DL

set_option maxHeartbeats 4000000
namespace DL
open PySem L2
@[simp] theorem noX_ok {α : Type} (a : α) (ρ : List Slot) : noX (.ok a ρ) = .ok a ρ := rfl
@[simp] theorem held_frz (d : D) : heldOk (.frz d) = true := rfl
theorem fmod_neg_range (f : Int) {s : Int} (h : s < 0) : s < f.fmod s ∧ f.fmod s ≤ 0 := by
  have e := Int.neg_fmod_neg (-f) (-s)
  rw [Int.neg_neg, Int.neg_neg] at e
  have a := Int.fmod_nonneg_of_pos (-f) (show 0 < -s by omega)
  have b := Int.fmod_lt_of_pos (-f) (show 0 < -s by omega)
  omega
theorem fmod_lt (f : Int) {s : Int} (h : s ≠ 0) : (f - f.fdiv s * s).natAbs < s.natAbs := by
  have h1 : f - f.fdiv s * s = f.fmod s := by rw [Int.fmod_def, Int.mul_comm]
  rw [h1]
  rcases Int.lt_or_gt_of_ne h with hn | hp
  · have a := fmod_neg_range f hn
    omega
  · have a := Int.fmod_nonneg_of_pos f hp
    have b := Int.fmod_lt_of_pos f hp
    omega
theorem natAbs_fdiv_le (f s : Int) (h : s ≠ 0) : (f.fdiv s).natAbs ≤ f.natAbs + 1 := by
  have e := Int.fmod_add_mul_fdiv f s
  have hr := fmod_lt f h
  have e2 : f - f.fdiv s * s = f.fmod s := by rw [Int.fmod_def, Int.mul_comm]
  rw [e2] at hr
  have h1 : (s * f.fdiv s).natAbs ≤ f.natAbs + (f.fmod s).natAbs := by omega
  rw [Int.natAbs_mul] at h1
  have hs : 1 ≤ s.natAbs := by omega
  rcases Nat.lt_or_ge (f.natAbs + 1) (f.fdiv s).natAbs with hc | hc
  · exfalso
    have h2 : s.natAbs * (f.natAbs + 2) ≤ s.natAbs * (f.fdiv s).natAbs := Nat.mul_le_mul_left _ hc
    have h3 : s.natAbs * (f.natAbs + 2) = s.natAbs * f.natAbs + 2 * s.natAbs := by rw [Nat.mul_add, Nat.mul_comm _ 2]
    have h4 : f.natAbs ≤ s.natAbs * f.natAbs := Nat.le_mul_of_pos_left _ hs
    omega
  · exact hc
end DL

set_option maxHeartbeats 4000000
namespace DL
open PySem L2
theorem Md.mul {n m : Nat} {i j : Int} (hi : Md n i) (hj : Md m j) : Md (n + m) (i * j) := by
  show (i * j).natAbs < 2 ^ (n + m)
  rw [Int.natAbs_mul, Nat.pow_add]
  exact Nat.mul_lt_mul'' hi hj
theorem Md.fdiv {n : Nat} {i j : Int} (hi : Md n i) (h : j ≠ 0) : Md (n + 1) (i.fdiv j) := by
  show (i.fdiv j).natAbs < 2 ^ (n + 1)
  have h1 : i.natAbs < 2 ^ n := hi
  have h2 := natAbs_fdiv_le i j h
  have h3 : 1 ≤ 2 ^ n := Nat.one_le_two_pow
  rw [Nat.pow_succ]; omega
theorem Md.fmod {n : Nat} {i j : Int} (hj : Md n j) (h : j ≠ 0) : Md n (i.fmod j) := by
  have h2 := fmod_lt i h
  have e2 : i - i.fdiv j * j = i.fmod j := by rw [Int.fmod_def, Int.mul_comm]
  rw [e2] at h2
  exact hj.of_le (by omega)
structure Gd where
  l : Int
  h : Int
  s : Int
  r : Int
abbrev Gd.d (g : Gd) : D := gd g.l g.h g.s g.r
structure Gd.Ok (g : Gd) (n : Nat) : Prop where
  s0 : 0 < g.s
  ml : Md n g.l
  mh : Md n g.h
  ms : Md n g.s
  mr : Md n g.r
def Gd.lanes (g : Gd) : Int := lanesI g.l g.h g.s g.r
end DL

set_option maxHeartbeats 4000000
namespace DL
open PySem L2
theorem nodup_ds (l : List D) : ioNodup (l.map Ar.d) = true := by induction l with
  | nil => rfl
  | cons a l ih => exact ih
theorem posOf_ds (i : Nat) (l : List D) : posOf (l.map Ar.d) i = none := by induction l with
  | nil => rfl
  | cons a l ih => show (posOf (l.map Ar.d) i).map _ = none; rw [ih]; rfl
theorem fill_ds (ρ : List Slot) (l : List D) : fill ρ (l.map Ar.d) = some (l.map .frz) := by induction l with
    | nil => rfl
    | cons a l ih =>
      show (fill ρ (l.map Ar.d)).map (Slot.frz a :: ·) = _
      rw [ih]; rfl
theorem wb_ds (ρ : List Slot) (os : List O) (l : List D) : wb (l.map Ar.d) os ρ = some ρ := by
    induction l with
    | nil => rfl
    | cons a l ih => exact ih
structure Cr where
  n : Int
  f : Int
  fs : Int
  s : Int
  ss : Int
abbrev Cr.d (c : Cr) : D := .obj 1 [.int c.n, .int c.f, .int c.fs, .int c.s, .int c.ss]
structure Cr.Ok (c : Cr) (n : Nat) : Prop where
  mf : Md n c.f
  mfs : Md n c.fs
  ms : Md n c.s
  mss : Md n c.ss
  mn : Md n c.n
inductive Wh where | all | no | at (i : Int)
abbrev Wh.d : Wh → D | .all => .str "all" | .no => .non | .at i => .int i
end DL

set_option maxHeartbeats 8000000
namespace DL
open PySem L2
theorem eVar_lst {ρ : List Slot} {i : Nat} {l : List D} (h : ρ[i]? = some (.own (.lst l))) : eVar i ρ = .ok (.lst l) (ρ.set i (.frz (.lst l))) := by unfold eVar; rw [h]; rfl
theorem frz_lst (l : List D) : (O.lst l).frz = some (.lst l) := rfl
theorem fMax_l1 (a : Int) : fMax [.lst [.int a]] = some (.int a) := rfl
theorem fMin_l1 (a : Int) : fMin [.lst [.int a]] = some (.int a) := rfl
theorem fMax_l2 (a b : Int) : fMax [.lst [.int a, .int b]] = some (.int (max a b)) := by show some (D.int (if b > a then b else a)) = _; congr 2; omega
theorem fMin_l2 (a b : Int) : fMin [.lst [.int a, .int b]] = some (.int (min a b)) := by show some (D.int (if b < a then b else a)) = _; congr 2; omega
end DL

set_option maxHeartbeats 8000000
namespace DL
open PySem L2
structure Pt where
  g : Gd
  a : Int
  b : Int
abbrev Pt.d (p : Pt) : D := .tup [p.g.d, .int p.a, .int p.b]
structure Pt.Ok (p : Pt) (n : Nat) : Prop where
  g : p.g.Ok n
  ma : Md n p.a
  mb : Md n p.b
abbrev Pt.t (p : Pt) : Int := p.a * p.g.s
end DL

set_option maxHeartbeats 1000000
namespace DL
open PySem L2
def St (s : Slot) : Prop := s = .no ∨ ∃ d, s = .frz d
theorem St.no : St .no := .inl rfl
theorem St.frz (d : D) : St (.frz d) := .inr ⟨d, rfl⟩
theorem setS_St {ρ : List Slot} {i : Nat} {s s0 : Slot} (h : ρ[i]? = some s0) (hs : St s0) : setS ρ i s = some (ρ.set i s) := by
  rcases hs with rfl | ⟨d, rfl⟩
  · exact setS_no h
  · exact setS_frz h
theorem for_fold {S : Type} {g : Tg} {b : M Fl} {Inv : S → List Slot → Prop} {step : S → D → S} : ∀ {l : List D} (h : ∀ d ∈ l, ∀ t ρ, Inv t ρ → ∃ ρ1 ρ2, g d ρ = some ρ1 ∧ b ρ1 = .ok .nx ρ2 ∧ Inv (step t d) ρ2) {t : S} {ρ : List Slot}, Inv t ρ → ∃ ρ2, forL g b l ρ = .ok .nx ρ2 ∧ Inv (l.foldl step t) ρ2
  | [], _, t, ρ, I => ⟨ρ, rfl, I⟩
  | d :: l, h, t, ρ, I => by
    obtain ⟨ρ1, ρ2, e1, e2, I2⟩ := h d List.mem_cons_self t ρ I
    obtain ⟨ρ3, e3, I3⟩ := for_fold (l := l) (fun d hd => h d (List.mem_cons_of_mem _ hd)) I2
    refine ⟨ρ3, ?_, I3⟩
    unfold forL
    simp only [e1, e2, Res.bind_ok, e3]
theorem fIsNot_i (k : Int) : fIsNot (.int k) .non = some (.bl true) := rfl
theorem fIsNot_n : fIsNot .non .non = some (.bl false) := rfl
theorem fIs_i (k : Int) : fIs (.int k) .non = some (.bl false) := rfl
theorem fIs_n : fIs .non .non = some (.bl true) := rfl
theorem fInt_b (b : Bool) : fInt [.bl b] = some (.int (if b = true then 1 else 0)) := rfl
theorem fAbs_i (i : Int) : fAbs [.int i] = some (.int i.natAbs) := by show some (D.int (if i < 0 then -i else i)) = _; congr 2; split <;> omega
theorem fMax_m (i j : Int) : fMax [.int i, .int j] = some (.int (max i j)) := by rw [fMax_ii]; congr 2; omega
theorem fMin_m (i j : Int) : fMin [.int i, .int j] = some (.int (min i j)) := by rw [fMin_ii]; congr 2; omega
end DL

set_option maxHeartbeats 1000000
namespace DL
open PySem L2
theorem fEq_ss (s t : Str) (h : PyData.strOk s = true) (h2 : PyData.strOk t = true) : fEq (.str s) (.str t) = some (.bl (s == t)) := by
  unfold fEq; simp [-DL.fMax_ii, -DL.fMin_ii, DL.sSeq_def, DL.sAsg, DL.sSet, DL.sRet, DL.sIf, DL.gT, DL.gCn, DL.gN, DL.gNl, DL.eVar_frz, DL.eC, DL.e1, DL.e2, DL.eCh_def, DL.eTup, DL.aNil, DL.aCons, DL.opt_eq, DL.xD, DL.fz, DL.bE_def, DL.eAnd_def, DL.eOr_def, DL.eB, DL.eIf, DL.setS_no, DL.setS_frz, DL.setS_own, DL.outs, DL.optS, DL.xC, DL.rD, DL.rNil, DL.LINE, DL.sNx, DL.bAnd, DL.bOr, DL.bNot, DL.sBk, DL.sCt, DL.sDrop, DL.sRetN, DL.eVar_lst, DL.frz_lst, DL.fMax_m, DL.fMin_m, DL.fIsNot_i, DL.fIsNot_n, DL.fIs_i, DL.fIs_n, DL.fInt_b, DL.fAbs_i, D.py, PyData.eqv, sh_str h, sh_str h2]
end DL

set_option maxHeartbeats 1000000
namespace DL
open PySem L2
structure Ac where
  nm : Str
  a : Int
  b : Int
inductive Stm where
  | put (g : Gd) (x : Ac) (c d : Int)
  | move (g : Gd) (x y : Ac) (e : Int)
  | sum (g : Gd) (x y z : Ac)
abbrev Stm.d : Stm → D
  | .put g x c d => .tup [.str "put", g.d, .str x.nm, .int x.a, .int x.b, .int c, .int d]
  | .move g x y e => .tup [.str "move", g.d, .str x.nm, .int x.a, .int x.b, .str y.nm, .int y.a, .int y.b, .int e]
  | .sum g x y z => .tup [.str "sum", g.d, .str x.nm, .int x.a, .int x.b, .str y.nm, .int y.a, .int y.b, .str z.nm, .int z.a, .int z.b]
abbrev rw : Bool → Str | true => "write" | false => "read"
structure Acc where
  k : Nat
  wr : Bool
  x : Ac
abbrev Acc.d (c : Acc) : D := .tup [.int c.k, .str (rw c.wr), .str c.x.nm, .int c.x.a, .int c.x.b]
theorem sl1 (a : D) : fSl (.tup [a]) (some 1) none = some (.tup []) := by rfl
theorem sl2 (a b : D) : fSl (.tup [a, b]) (some 1) none = some (.tup [b]) := by rfl
theorem sl3 (a b c : D) : fSl (.tup [a, b, c]) (some 1) none = some (.tup [b, c]) := by rfl
theorem sl7 (a b c d e f g : D) : fSl (.tup [a, b, c, d, e, f, g]) (some 2) (some 5) = some (.tup [c, d, e]) := by rfl
theorem sl9 (a b c d e f g h i : D) : fSl (.tup [a, b, c, d, e, f, g, h, i]) (some 2) (some 5) = some (.tup [c, d, e]) ∧ fSl (.tup [a, b, c, d, e, f, g, h, i]) (some 5) (some 8) = some (.tup [f, g, h]) := by exact ⟨by rfl, by rfl⟩
theorem sl11 (a b c d e f g h i j k : D) : fSl (.tup [a, b, c, d, e, f, g, h, i, j, k]) (some 2) (some 5) = some (.tup [c, d, e]) ∧ fSl (.tup [a, b, c, d, e, f, g, h, i, j, k]) (some 5) (some 8) = some (.tup [f, g, h]) ∧ fSl (.tup [a, b, c, d, e, f, g, h, i, j, k]) (some 8) (some 11) = some (.tup [i, j, k]) := by exact ⟨by rfl, by rfl, by rfl⟩
end DL

set_option maxHeartbeats 1000000
namespace DL
open PySem L2
theorem compT_map {X : Type} (enc : X → D) {vs : List Nat} {g : Tg} {tt : M Bool} {el : M D} {ρ0 : List Slot} (P : X → Bool) (f : X → D) : ∀ (xs : List X),
    (∀ x ∈ xs, ∃ ρ1 ρ2, g (enc x) ρ0 = some ρ1 ∧ tt ρ1 = .ok (P x) ρ2 ∧ (P x = true → ∃ ρ3, el ρ2 = .ok (f x) ρ3 ∧ noIo ρ3 vs = true ∧ wipeS ρ3 vs = ρ0) ∧ (P x = false → noIo ρ2 vs = true ∧ wipeS ρ2 vs = ρ0)) →
    compT vs g tt el (xs.map enc) ρ0 = .ok ((xs.filter P).map f) ρ0
  | [], _ => rfl
  | x :: xs, h => by
    have ih := compT_map enc P f xs fun y hy => h y (List.mem_cons_of_mem _ hy)
    obtain ⟨ρ1, ρ2, e1, e2, h1, h2⟩ := h x List.mem_cons_self
    rw [List.map_cons, compT]
    simp only [e1, e2, noX, Res.bind_ok]
    cases hp : P x with
    | true =>
      obtain ⟨ρ3, e3, e4, e5⟩ := h1 hp
      simp [-DL.fMax_ii, -DL.fMin_ii, DL.sSeq_def, DL.sAsg, DL.sSet, DL.sRet, DL.sIf, DL.gT, DL.gCn, DL.gN, DL.gNl, DL.eVar_frz, DL.eC, DL.e1, DL.e2, DL.eCh_def, DL.eTup, DL.aNil, DL.aCons, DL.opt_eq, DL.xD, DL.fz, DL.bE_def, DL.eAnd_def, DL.eOr_def, DL.eB, DL.eIf, DL.setS_no, DL.setS_frz, DL.setS_own, DL.outs, DL.optS, DL.xC, DL.rD, DL.rNil, DL.LINE, DL.sNx, DL.bAnd, DL.bOr, DL.bNot, DL.sBk, DL.sCt, DL.sDrop, DL.sRetN, DL.eVar_lst, DL.frz_lst, DL.fMax_m, DL.fMin_m, DL.fIsNot_i, DL.fIsNot_n, DL.fIs_i, DL.fIs_n, DL.fInt_b, DL.fAbs_i, e3, e4, e5, ih, hp, noX]
    | false =>
      obtain ⟨e4, e5⟩ := h2 hp
      simp [-DL.fMax_ii, -DL.fMin_ii, DL.sSeq_def, DL.sAsg, DL.sSet, DL.sRet, DL.sIf, DL.gT, DL.gCn, DL.gN, DL.gNl, DL.eVar_frz, DL.eC, DL.e1, DL.e2, DL.eCh_def, DL.eTup, DL.aNil, DL.aCons, DL.opt_eq, DL.xD, DL.fz, DL.bE_def, DL.eAnd_def, DL.eOr_def, DL.eB, DL.eIf, DL.setS_no, DL.setS_frz, DL.setS_own, DL.outs, DL.optS, DL.xC, DL.rD, DL.rNil, DL.LINE, DL.sNx, DL.bAnd, DL.bOr, DL.bNot, DL.sBk, DL.sCt, DL.sDrop, DL.sRetN, DL.eVar_lst, DL.frz_lst, DL.fMax_m, DL.fMin_m, DL.fIsNot_i, DL.fIsNot_n, DL.fIs_i, DL.fIs_n, DL.fInt_b, DL.fAbs_i, e4, e5, ih, hp]
structure Kn where
  lanes : Int
  sts : List Stm
  bars : List Int
abbrev Kn.d (k : Kn) : D := .obj 0 [.int k.lanes, .tup (k.sts.map Stm.d), .tup (k.bars.map D.int)]
theorem kF1 (k : Kn) : fFld 0 "lane_count" k.d = some (.int k.lanes) := rfl
theorem kF2 (k : Kn) : fFld 0 "kept_statements" k.d = some (.tup (k.sts.map Stm.d)) := rfl
theorem kF3 (k : Kn) : fFld 0 "kept_barriers" k.d = some (.tup (k.bars.map D.int)) := rfl
end DL

set_option maxHeartbeats 1000000
namespace DL
open PySem L2
def Ac.ok (x : Ac) : Prop := PyData.strOk x.nm = true
def Stm.g : Stm → Gd
  | .put g _ _ _ => g
  | .move g _ _ _ => g
  | .sum g _ _ _ => g
end DL

set_option maxHeartbeats 1000000
namespace DL
open PySem L2
def Stm.parts : Stm → List Ac
  | .put _ x _ _ => [x]
  | .move _ x y _ => [x, y]
  | .sum _ x y z => [x, y, z]
structure Ac.Ok (x : Ac) (n : Nat) : Prop where
  s : x.ok
  a : Md n x.a
  b : Md n x.b
structure Stm.Ok (s : Stm) (n : Nat) : Prop where
  g : s.g.Ok n
  p : ∀ x ∈ s.parts, x.Ok n
structure Kn.Ok (k : Kn) (n : Nat) : Prop where
  s : ∀ s ∈ k.sts, s.Ok n
  ls : k.sts.length ≤ 1000
  lb : k.bars.length ≤ 1000
end DL

set_option maxHeartbeats 1000000
namespace DL
open PySem L2
theorem xLc_ok {vs : List Nat} {mi : M (List D)} {g : Tg} {tt : M Bool} {el : M D} {ρ ρ1 ρ2 : List Slot} {l ys : List D} (h1 : mi ρ = .ok l ρ1) (h2 : noIo ρ1 vs = true) (hl : l.length ≤ 16777216)
    (h3 : compT vs g tt el l (wipeS ρ1 vs) = .ok ys ρ2) : xLc vs mi g tt el ρ = .ok (.own (.lst ys)) (restS ρ1 ρ2 vs) := by
  unfold xLc
  rw [h1, Res.bind_ok, if_pos ⟨h2, hl⟩, h3]
  rfl
theorem iR1_gen {ms : M (List D)} {ρ ρ1 : List Slot} {j : Int} (h : ms ρ = .ok [.int j] ρ1) (hj : small62 j) : iR1 ms ρ = .ok (rng 0 j.toNat) ρ1 := by
  unfold iR1
  rw [h]
  exact if_pos hj
theorem iR2_gen {ms : M (List D)} {ρ ρ1 : List Slot} {i j : Int} (h : ms ρ = .ok [.int i, .int j] ρ1) (hi : small62 i) (hj : small62 j) : iR2 ms ρ = .ok (rng i (j - i).toNat) ρ1 := by
  unfold iR2
  rw [h]
  exact if_pos ⟨hi, hj⟩
end DL

set_option maxHeartbeats 1000000
namespace DL
open PySem L2
def frO (k : O → List Slot) : FR → Res Slot
  | .ok s [o] => .ok s (k o)
  | .exc c d [o] => .exc c d (k o)
  | _ => .bad
@[simp] theorem frO_ok (k : O → List Slot) (s : Slot) (o : O) : frO k (.ok s [o]) = .ok s (k o) := rfl
@[simp] theorem frO_exc (k : O → List Slot) (c : Nat) (d : D) (o : O) : frO k (.exc c d [o]) = .exc c d (k o) := rfl
def One (f : Fn) (o : O) (l : List D) : Prop := match f (.io o :: l.map .frz) with
  | .ok _ [_] => True
  | .exc _ _ [_] => True
  | _ => False
theorem callIo_eq {f : Fn} {o : O} {l : List D} {ρ : List Slot} {i : Nat} (h : ρ[i]? = some (.io o)) (h1 : One f o l) : callF f (.io i :: l.map .d) ρ = frO (fun o' => ρ.set i (.io o')) (f (.io o :: l.map .frz)) := by
  have e1 : ioNodup (.io i :: l.map Ar.d) = true := by
    show ((posOf _ _).isNone && _) = true
    rw [posOf_ds, nodup_ds]; rfl
  have e2 : fill ρ (.io i :: l.map Ar.d) = some (.io o :: l.map .frz) := by
    unfold fill; rw [h]; simp only [fill_ds]; rfl
  have e3 : ∀ o', wb (.io i :: l.map Ar.d) [o'] ρ = some (ρ.set i (.io o')) := fun o' => by
    unfold wb putO; rw [h]; simp only [Option.bind_some, wb_ds]
  unfold callF
  rw [if_pos e1, e2]
  unfold One at h1
  simp only
  cases q : f (.io o :: l.map Slot.frz) with
  | bad => rfl
  | ok s os =>
    rw [q] at h1
    match os, h1 with
    | [o'], _ => simp only [e3]; rfl
  | exc c d os =>
    rw [q] at h1
    match os, h1 with
    | [o'], _ => simp only [e3]; rfl
theorem callOwn_eq {f : Fn} {o : O} {l : List D} {ρ : List Slot} {i : Nat} (h : ρ[i]? = some (.own o)) (h1 : One f o l) : callF f (.io i :: l.map .d) ρ = frO (fun o' => ρ.set i (.own o')) (f (.io o :: l.map .frz)) := by
  have e1 : ioNodup (.io i :: l.map Ar.d) = true := by
    show ((posOf _ _).isNone && _) = true
    rw [posOf_ds, nodup_ds]; rfl
  have e2 : fill ρ (.io i :: l.map Ar.d) = some (.io o :: l.map .frz) := by
    unfold fill; rw [h]; simp only [fill_ds]; rfl
  have e3 : ∀ o', wb (.io i :: l.map Ar.d) [o'] ρ = some (ρ.set i (.own o')) := fun o' => by
    unfold wb putO; rw [h]; simp only [Option.bind_some, wb_ds]
  unfold callF
  rw [if_pos e1, e2]
  unfold One at h1
  simp only
  cases q : f (.io o :: l.map Slot.frz) with
  | bad => rfl
  | ok s os =>
    rw [q] at h1
    match os, h1 with
    | [o'], _ => simp only [e3]; rfl
  | exc c d os =>
    rw [q] at h1
    match os, h1 with
    | [o'], _ => simp only [e3]; rfl
section
variable {f : Fn} {o o' : O} {ρ : List Slot} {i : Nat} {s : Slot} {a b c : D}
theorem callI1 (e : f [.io o, .frz a] = .ok s [o']) (h : ρ[i]? = some (.io o)) : callF f [.io i, .d a] ρ = .ok s (ρ.set i (.io o')) := by
  have := callIo_eq (f := f) (l := [a]) h (by unfold One; simp only [List.map_cons, List.map_nil, e])
  simpa [-DL.fMax_ii, -DL.fMin_ii, DL.sSeq_def, DL.sAsg, DL.sSet, DL.sRet, DL.sIf, DL.gT, DL.gCn, DL.gN, DL.gNl, DL.eVar_frz, DL.eC, DL.e1, DL.e2, DL.eCh_def, DL.eTup, DL.aNil, DL.aCons, DL.opt_eq, DL.xD, DL.fz, DL.bE_def, DL.eAnd_def, DL.eOr_def, DL.eB, DL.eIf, DL.setS_no, DL.setS_frz, DL.setS_own, DL.outs, DL.optS, DL.xC, DL.rD, DL.rNil, DL.LINE, DL.sNx, DL.bAnd, DL.bOr, DL.bNot, DL.sBk, DL.sCt, DL.sDrop, DL.sRetN, DL.eVar_lst, DL.frz_lst, DL.fMax_m, DL.fMin_m, DL.fIsNot_i, DL.fIsNot_n, DL.fIs_i, DL.fIs_n, DL.fInt_b, DL.fAbs_i, e] using this
theorem callO1 (e : f [.io o, .frz a] = .ok s [o']) (h : ρ[i]? = some (.own o)) : callF f [.io i, .d a] ρ = .ok s (ρ.set i (.own o')) := by
  have := callOwn_eq (f := f) (l := [a]) h (by unfold One; simp only [List.map_cons, List.map_nil, e])
  simpa [-DL.fMax_ii, -DL.fMin_ii, DL.sSeq_def, DL.sAsg, DL.sSet, DL.sRet, DL.sIf, DL.gT, DL.gCn, DL.gN, DL.gNl, DL.eVar_frz, DL.eC, DL.e1, DL.e2, DL.eCh_def, DL.eTup, DL.aNil, DL.aCons, DL.opt_eq, DL.xD, DL.fz, DL.bE_def, DL.eAnd_def, DL.eOr_def, DL.eB, DL.eIf, DL.setS_no, DL.setS_frz, DL.setS_own, DL.outs, DL.optS, DL.xC, DL.rD, DL.rNil, DL.LINE, DL.sNx, DL.bAnd, DL.bOr, DL.bNot, DL.sBk, DL.sCt, DL.sDrop, DL.sRetN, DL.eVar_lst, DL.frz_lst, DL.fMax_m, DL.fMin_m, DL.fIsNot_i, DL.fIsNot_n, DL.fIs_i, DL.fIs_n, DL.fInt_b, DL.fAbs_i, e] using this
end
structure Bg where
  g : List Int
  l : Int
  t : Int
  b : Int
abbrev Bg.o (B : Bg) : O := .bag B.g B.l B.t B.b
structure Bg.Ok (B : Bg) (n : Nat) : Prop where
  g : ∀ x ∈ B.g, 0 ≤ x
  l : 0 ≤ B.l
  t : 0 ≤ B.t ∧ B.t ≤ n
  b : 0 ≤ B.b ∧ B.b < 2305843009213693951
theorem Bg.Ok.up {B : Bg} {n m : Nat} (h : B.Ok n) (hm : n ≤ m) : B.Ok m := ⟨h.g, h.l, ⟨h.t.1, by have := h.t.2; omega⟩, h.b⟩
theorem fPow_i {i : Int} {k : Nat} (hi : Md 100 i) (hk : k ≤ 1000) : fPow (.int i) (.int k) = some (.int (i ^ k)) := by
  have h1 := hi.log (by decide)
  refine if_pos ⟨by omega, ?_⟩
  have : (i.natAbs.log2 + 1) * k ≤ 101 * 1000 := Nat.mul_le_mul (by omega) hk
  rw [Int.natAbs_natCast]
  omega
theorem fPow2 {i : Int} (hi : Md 100 i) : fPow (.int i) (.int 2) = some (.int (i ^ 2)) := fPow_i (k := 2) hi (by decide)
theorem fPow3 {i : Int} (hi : Md 100 i) : fPow (.int i) (.int 3) = some (.int (i ^ 3)) := fPow_i (k := 3) hi (by decide)
theorem md_c {n : Nat} {i : Int} (h : i.natAbs < 2 ^ 20) (hn : 20 ≤ n) : Md n i := Md.up (n := 20) h hn
theorem fPow18 : fPow (.int 10) (.int 18) = some (.int 1000000000000000000) := by
  rw [show (18 : Int) = ((18 : Nat) : Int) from rfl, fPow_i (md_c (by decide) (by decide)) (by decide)]; rfl
theorem md_of {n : Nat} {i : Int} (h : -(2 ^ n) < i ∧ i < 2 ^ n) : Md n i := by
  have e : ((2 ^ n : Nat) : Int) = 2 ^ n := by simp [-DL.fMax_ii, -DL.fMin_ii, DL.sSeq_def, DL.sAsg, DL.sSet, DL.sRet, DL.sIf, DL.gT, DL.gCn, DL.gN, DL.gNl, DL.eVar_frz, DL.eC, DL.e1, DL.e2, DL.eCh_def, DL.eTup, DL.aNil, DL.aCons, DL.opt_eq, DL.xD, DL.fz, DL.bE_def, DL.eAnd_def, DL.eOr_def, DL.eB, DL.eIf, DL.setS_no, DL.setS_frz, DL.setS_own, DL.outs, DL.optS, DL.xC, DL.rD, DL.rNil, DL.LINE, DL.sNx, DL.bAnd, DL.bOr, DL.bNot, DL.sBk, DL.sCt, DL.sDrop, DL.sRetN, DL.eVar_lst, DL.frz_lst, DL.fMax_m, DL.fMin_m, DL.fIsNot_i, DL.fIsNot_n, DL.fIs_i, DL.fIs_n, DL.fInt_b, DL.fAbs_i]
  show i.natAbs < 2 ^ n
  omega
theorem fmod_rng {a b : Int} (h : 0 < b) : 0 ≤ a.fmod b ∧ a.fmod b < b := ⟨Int.fmod_nonneg_of_pos _ h, Int.fmod_lt_of_pos _ h⟩
theorem law_draw_ok {B : Bg} {n : Nat} (h : B.Ok n) (hn : n ≤ 1000000) {m : Int} (hm : 0 < m) (mm : Md 9000 m) : ∃ (r : Int) (B' : Bg), F_law_draw [.io B.o, .frz (.int m)] = .ok (.frz (.int r)) [B'.o] ∧ 0 ≤ r ∧ r < m ∧ B'.Ok (n + 1) := by
  have d1 : ∀ i : Int, fDiv (.int i) (.int m) = some (.int (i.fdiv m)) := fun i => fDiv_i (by omega) mm
  have d2 : ∀ i : Int, fMod (.int i) (.int m) = some (.int (i.fmod m)) := fun i => fMod_i (by omega)
  have t0 := h.t
  have b0 := h.b
  have m1 : fPow (.int (B.t + 1 + 29)) (.int 2) = some (.int ((B.t + 1 + 29) ^ 2)) := fPow2 (md_of (by omega))
  have m2 : Md 100 ((B.t + 1 + 29) ^ 2) := by
    rw [show (B.t + 1 + 29) ^ 2 = (B.t + 1 + 29) * (B.t + 1 + 29) by rw [Int.pow_succ, Int.pow_succ, Int.pow_zero, Int.one_mul]]
    exact Md.mul (n := 50) (m := 50) (md_of (by omega)) (md_of (by omega))
  have m3 : fMul (.int 17) (.int (B.t + 1)) = some (.int (17 * (B.t + 1))) := fMul_i (md_c (by decide) (by decide)) (Md.up (n := 50) (md_of (by omega)) (by decide))
  have m4 : fMul (.int 7919) (.int (B.t + 1)) = some (.int (7919 * (B.t + 1))) := fMul_i (md_c (by decide) (by decide)) (Md.up (n := 50) (md_of (by omega)) (by decide))
  have m5 : fMul (.int (B.b + 17 * (B.t + 1))) (.int ((B.t + 1 + 29) ^ 2)) = some (.int ((B.b + 17 * (B.t + 1)) * (B.t + 1 + 29) ^ 2)) := fMul_i (Md.up (n := 70) (md_of (by omega)) (by decide)) (m2.up (by decide))
  have m6 : ∀ i : Int, fMod (.int i) (.int 2305843009213693951) = some (.int (i.fmod 2305843009213693951)) := fun i => fMod_i (by decide)
  have m7 : ∀ i : Int, fPow (.int (i.fmod 2305843009213693951)) (.int 3) = some (.int ((i.fmod 2305843009213693951) ^ 3)) := fun i => fPow3 (md_of (by have := fmod_rng (a := i) (show (0 : Int) < 2305843009213693951 by decide); omega))
  have m8 : ∀ i : Int, fMod (.int i) (.int 1000000000000000009) = some (.int (i.fmod 1000000000000000009)) := fun i => fMod_i (by decide)
  have m9 : ∀ i : Int, fDiv (.int i) (.int 64) = some (.int (i.fdiv 64)) := fun i => fDiv_i (by decide) (md_c (by decide) (by decide))
  have fin : ∀ {R : Res Fl}, (∃ (r : Int) (B' : Bg) (rest : List Slot), R = Res.ok (Fl.rt (.frz (.int r))) (.io B'.o :: rest) ∧ 0 ≤ r ∧ r < m ∧ B'.Ok (n + 1)) → ∃ (r : Int) (B' : Bg), endF [.io B.o, .frz (.int m)] R = .ok (.frz (.int r)) [B'.o] ∧ 0 ≤ r ∧ r < m ∧ B'.Ok (n + 1) := fun {R} ⟨r, B', rest, e, h1, h2, h3⟩ => by
    subst e
    refine ⟨r, B', ?_, h1, h2, h3⟩
    simp [-DL.fMax_ii, -DL.fMin_ii, DL.sSeq_def, DL.sAsg, DL.sSet, DL.sRet, DL.sIf, DL.gT, DL.gCn, DL.gN, DL.gNl, DL.eVar_frz, DL.eC, DL.e1, DL.e2, DL.eCh_def, DL.eTup, DL.aNil, DL.aCons, DL.opt_eq, DL.xD, DL.fz, DL.bE_def, DL.eAnd_def, DL.eOr_def, DL.eB, DL.eIf, DL.setS_no, DL.setS_frz, DL.setS_own, DL.outs, DL.optS, DL.xC, DL.rD, DL.rNil, DL.LINE, DL.sNx, DL.bAnd, DL.bOr, DL.bNot, DL.sBk, DL.sCt, DL.sDrop, DL.sRetN, DL.eVar_lst, DL.frz_lst, DL.fMax_m, DL.fMin_m, DL.fIsNot_i, DL.fIsNot_n, DL.fIs_i, DL.fIs_n, DL.fInt_b, DL.fAbs_i]
    cases rest with
    | nil => rfl
    | cons a l => cases l <;> rfl
  unfold F_law_draw
  rw [mfn_run [.io B.o, .frz (.int m), .no, .no, .no]]
  refine fin ?_
  unfold m_law_draw
  obtain ⟨g, l, t, b⟩ := B
  have hl := h.l
  have hg := h.g
  simp only at hl hg t0 b0 m1 m2 m3 m4 m5
  have key : ∀ (g : List Int) (l : Int), (∀ x ∈ g, 0 ≤ x) → 0 ≤ l → ∃ (r : Int) (B' : Bg) (rest : List Slot), (sSeq (sIf (bE (e2 fGe (eBag 0 .left) (eVar 1))) (sSeq (sSet 2 (xD (e2 fMod (eBag 0 .left) (eVar 1)))) (sSeq (sBagPut 0 .left (e2 fDiv (eBag 0 .left) (eVar 1))) (sRet (xD (eVar 2))))) (sNx)) (sSeq (sBagAug 0 .turn (eC (.int 1))) (sSeq (sSet 3 (xD (eBag 0 .turn))) (sSeq (sSet 4 (xD (e2 fAdd (e2 fMul (e2 fAdd (eBag 0 .blend) (e2 fMul (eC (.int 17)) (eVar 3))) (e2 fPow (e2 fAdd (eVar 3) (eC (.int 29))) (eC (.int 2)))) (e2 fMul (eC (.int 7919)) (eVar 3))))) (sRet (xD (e2 fMod (e2 fDiv (e2 fMod (e2 fPow (e2 fMod (eVar 4) (eC (.int 2305843009213693951))) (eC (.int 3))) (e2 fAdd (e2 fPow (eC (.int 10)) (eC (.int 18))) (eC (.int 9)))) (eC (.int 64))) (eVar 1)))))))) [.io (.bag g l t b), .frz (.int m), .no, .no, .no] = Res.ok (Fl.rt (.frz (.int r))) (.io B'.o :: rest) ∧ 0 ≤ r ∧ r < m ∧ B'.Ok (n + 1) := fun g l hg hl => by
    by_cases c : m ≤ l
    · refine ⟨l.fmod m, ⟨g, l.fdiv m, t, b⟩, [.frz (.int m), .frz (.int (l.fmod m)), .no, .no], ?_, (fmod_rng hm).1, (fmod_rng hm).2, hg, Int.fdiv_nonneg hl (by omega), ⟨t0.1, by simp [-DL.fMax_ii, -DL.fMin_ii, DL.sSeq_def, DL.sAsg, DL.sSet, DL.sRet, DL.sIf, DL.gT, DL.gCn, DL.gN, DL.gNl, DL.eVar_frz, DL.eC, DL.e1, DL.e2, DL.eCh_def, DL.eTup, DL.aNil, DL.aCons, DL.opt_eq, DL.xD, DL.fz, DL.bE_def, DL.eAnd_def, DL.eOr_def, DL.eB, DL.eIf, DL.setS_no, DL.setS_frz, DL.setS_own, DL.outs, DL.optS, DL.xC, DL.rD, DL.rNil, DL.LINE, DL.sNx, DL.bAnd, DL.bOr, DL.bNot, DL.sBk, DL.sCt, DL.sDrop, DL.sRetN, DL.eVar_lst, DL.frz_lst, DL.fMax_m, DL.fMin_m, DL.fIsNot_i, DL.fIsNot_n, DL.fIs_i, DL.fIs_n, DL.fInt_b, DL.fAbs_i]; omega⟩, b0⟩
      simp [-DL.fMax_ii, -DL.fMin_ii, DL.sSeq_def, DL.sAsg, DL.sSet, DL.sRet, DL.sIf, DL.gT, DL.gCn, DL.gN, DL.gNl, DL.eVar_frz, DL.eC, DL.e1, DL.e2, DL.eCh_def, DL.eTup, DL.aNil, DL.aCons, DL.opt_eq, DL.xD, DL.fz, DL.bE_def, DL.eAnd_def, DL.eOr_def, DL.eB, DL.eIf, DL.setS_no, DL.setS_frz, DL.setS_own, DL.outs, DL.optS, DL.xC, DL.rD, DL.rNil, DL.LINE, DL.sNx, DL.bAnd, DL.bOr, DL.bNot, DL.sBk, DL.sCt, DL.sDrop, DL.sRetN, DL.eVar_lst, DL.frz_lst, DL.fMax_m, DL.fMin_m, DL.fIsNot_i, DL.fIsNot_n, DL.fIs_i, DL.fIs_n, DL.fInt_b, DL.fAbs_i, eBag, bagAt, slO, oOf, BK.get, c, d1, d2, sBagPut, BK.put, putS, withO]
    · refine ⟨((((((b + 17 * (t + 1)) * (t + 1 + 29) ^ 2 + 7919 * (t + 1)).fmod 2305843009213693951) ^ 3).fmod 1000000000000000009).fdiv 64).fmod m, ⟨g, l, t + 1, b⟩, [.frz (.int m), .no, .frz (.int (t + 1)), .frz (.int ((b + 17 * (t + 1)) * (t + 1 + 29) ^ 2 + 7919 * (t + 1)))], ?_, (fmod_rng hm).1, (fmod_rng hm).2, hg, hl, ⟨by simp [-DL.fMax_ii, -DL.fMin_ii, DL.sSeq_def, DL.sAsg, DL.sSet, DL.sRet, DL.sIf, DL.gT, DL.gCn, DL.gN, DL.gNl, DL.eVar_frz, DL.eC, DL.e1, DL.e2, DL.eCh_def, DL.eTup, DL.aNil, DL.aCons, DL.opt_eq, DL.xD, DL.fz, DL.bE_def, DL.eAnd_def, DL.eOr_def, DL.eB, DL.eIf, DL.setS_no, DL.setS_frz, DL.setS_own, DL.outs, DL.optS, DL.xC, DL.rD, DL.rNil, DL.LINE, DL.sNx, DL.bAnd, DL.bOr, DL.bNot, DL.sBk, DL.sCt, DL.sDrop, DL.sRetN, DL.eVar_lst, DL.frz_lst, DL.fMax_m, DL.fMin_m, DL.fIsNot_i, DL.fIsNot_n, DL.fIs_i, DL.fIs_n, DL.fInt_b, DL.fAbs_i]; omega, by simp [-DL.fMax_ii, -DL.fMin_ii, DL.sSeq_def, DL.sAsg, DL.sSet, DL.sRet, DL.sIf, DL.gT, DL.gCn, DL.gN, DL.gNl, DL.eVar_frz, DL.eC, DL.e1, DL.e2, DL.eCh_def, DL.eTup, DL.aNil, DL.aCons, DL.opt_eq, DL.xD, DL.fz, DL.bE_def, DL.eAnd_def, DL.eOr_def, DL.eB, DL.eIf, DL.setS_no, DL.setS_frz, DL.setS_own, DL.outs, DL.optS, DL.xC, DL.rD, DL.rNil, DL.LINE, DL.sNx, DL.bAnd, DL.bOr, DL.bNot, DL.sBk, DL.sCt, DL.sDrop, DL.sRetN, DL.eVar_lst, DL.frz_lst, DL.fMax_m, DL.fMin_m, DL.fIsNot_i, DL.fIsNot_n, DL.fIs_i, DL.fIs_n, DL.fInt_b, DL.fAbs_i]; omega⟩, b0⟩
      simp [-DL.fMax_ii, -DL.fMin_ii, DL.sSeq_def, DL.sAsg, DL.sSet, DL.sRet, DL.sIf, DL.gT, DL.gCn, DL.gN, DL.gNl, DL.eVar_frz, DL.eC, DL.e1, DL.e2, DL.eCh_def, DL.eTup, DL.aNil, DL.aCons, DL.opt_eq, DL.xD, DL.fz, DL.bE_def, DL.eAnd_def, DL.eOr_def, DL.eB, DL.eIf, DL.setS_no, DL.setS_frz, DL.setS_own, DL.outs, DL.optS, DL.xC, DL.rD, DL.rNil, DL.LINE, DL.sNx, DL.bAnd, DL.bOr, DL.bNot, DL.sBk, DL.sCt, DL.sDrop, DL.sRetN, DL.eVar_lst, DL.frz_lst, DL.fMax_m, DL.fMin_m, DL.fIsNot_i, DL.fIsNot_n, DL.fIs_i, DL.fIs_n, DL.fInt_b, DL.fAbs_i, eBag, bagAt, slO, oOf, BK.get, c, d1, d2, sBagPut, BK.put, putS, withO, sBagAug, m1, m3, m4, m5, m6, m7, m8, m9, fPow18]
  cases g with
  | nil =>
    obtain ⟨r, B', rest, e, h1⟩ := key [] l (fun _ z => nomatch z) hl
    refine ⟨r, B', rest, ?_, h1⟩
    rw [← e]
    by_cases c : l < m <;> simp [-DL.fMax_ii, -DL.fMin_ii, DL.sSeq_def, DL.sAsg, DL.sSet, DL.sRet, DL.sIf, DL.gT, DL.gCn, DL.gN, DL.gNl, DL.eVar_frz, DL.eC, DL.e1, DL.e2, DL.eCh_def, DL.eTup, DL.aNil, DL.aCons, DL.opt_eq, DL.xD, DL.fz, DL.bE_def, DL.eAnd_def, DL.eOr_def, DL.eB, DL.eIf, DL.setS_no, DL.setS_frz, DL.setS_own, DL.outs, DL.optS, DL.xC, DL.rD, DL.rNil, DL.LINE, DL.sNx, DL.bAnd, DL.bOr, DL.bNot, DL.sBk, DL.sCt, DL.sDrop, DL.sRetN, DL.eVar_lst, DL.frz_lst, DL.fMax_m, DL.fMin_m, DL.fIsNot_i, DL.fIsNot_n, DL.fIs_i, DL.fIs_n, DL.fInt_b, DL.fAbs_i, eBag, bagAt, slO, oOf, BK.get, eBagLen, c]
  | cons v g =>
    by_cases c : l < m
    · obtain ⟨r, B', rest, e, h1⟩ := key g v (fun x hx => hg x (List.mem_cons_of_mem _ hx)) (hg v List.mem_cons_self)
      refine ⟨r, B', rest, ?_, h1⟩
      rw [← e]
      have z : (0 : Int) < (g.length : Int) + 1 := by omega
      simp [-DL.fMax_ii, -DL.fMin_ii, DL.sSeq_def, DL.sAsg, DL.sSet, DL.sRet, DL.sIf, DL.gT, DL.gCn, DL.gN, DL.gNl, DL.eVar_frz, DL.eC, DL.e1, DL.e2, DL.eCh_def, DL.eTup, DL.aNil, DL.aCons, DL.opt_eq, DL.xD, DL.fz, DL.bE_def, DL.eAnd_def, DL.eOr_def, DL.eB, DL.eIf, DL.setS_no, DL.setS_frz, DL.setS_own, DL.outs, DL.optS, DL.xC, DL.rD, DL.rNil, DL.LINE, DL.sNx, DL.bAnd, DL.bOr, DL.bNot, DL.sBk, DL.sCt, DL.sDrop, DL.sRetN, DL.eVar_lst, DL.frz_lst, DL.fMax_m, DL.fMin_m, DL.fIsNot_i, DL.fIsNot_n, DL.fIs_i, DL.fIs_n, DL.fInt_b, DL.fAbs_i, eBag, bagAt, slO, oOf, BK.get, eBagLen, c, eBagPop, sBagPut, BK.put, putS, withO, z]
    · obtain ⟨r, B', rest, e, h1⟩ := key (v :: g) l hg hl
      refine ⟨r, B', rest, ?_, h1⟩
      rw [← e]
      simp [-DL.fMax_ii, -DL.fMin_ii, DL.sSeq_def, DL.sAsg, DL.sSet, DL.sRet, DL.sIf, DL.gT, DL.gCn, DL.gN, DL.gNl, DL.eVar_frz, DL.eC, DL.e1, DL.e2, DL.eCh_def, DL.eTup, DL.aNil, DL.aCons, DL.opt_eq, DL.xD, DL.fz, DL.bE_def, DL.eAnd_def, DL.eOr_def, DL.eB, DL.eIf, DL.setS_no, DL.setS_frz, DL.setS_own, DL.outs, DL.optS, DL.xC, DL.rD, DL.rNil, DL.LINE, DL.sNx, DL.bAnd, DL.bOr, DL.bNot, DL.sBk, DL.sCt, DL.sDrop, DL.sRetN, DL.eVar_lst, DL.frz_lst, DL.fMax_m, DL.fMin_m, DL.fIsNot_i, DL.fIsNot_n, DL.fIs_i, DL.fIs_n, DL.fInt_b, DL.fAbs_i, eBag, bagAt, slO, oOf, BK.get, c]
end DL

set_option maxHeartbeats 1000000
namespace DL
open PySem L2
abbrev lets : Str := "abcdefghijklmnopqrstuvwxyz"
def isLet (c : Nat) : Bool := decide (c ∈ lets.cps.toList)
def isArr (x : Str) : Bool := decide (1 ≤ x.length) && (decide (x.length ≤ 8) && x.cps.toList.all isLet)
theorem fAll_map {X : Type} (f : X → Bool) (l : List X) : fAll [.lst (l.map fun x => D.bl (f x))] = some (.bl (l.all f)) := by
  have : (l.map fun x => D.bl (f x)) = (l.map f).map D.bl := by rw [List.map_map]; rfl
  rw [this]
  show (boolsOf _).map _ = _
  rw [boolsOf_map]
  simp [-DL.fMax_ii, -DL.fMin_ii, DL.sSeq_def, DL.sAsg, DL.sSet, DL.sRet, DL.sIf, DL.gT, DL.gCn, DL.gN, DL.gNl, DL.eVar_frz, DL.eC, DL.e1, DL.e2, DL.eCh_def, DL.eTup, DL.aNil, DL.aCons, DL.opt_eq, DL.xD, DL.fz, DL.bE_def, DL.eAnd_def, DL.eOr_def, DL.eB, DL.eIf, DL.setS_no, DL.setS_frz, DL.setS_own, DL.outs, DL.optS, DL.xC, DL.rD, DL.rNil, DL.LINE, DL.sNx, DL.bAnd, DL.bOr, DL.bNot, DL.sBk, DL.sCt, DL.sDrop, DL.sRetN, DL.eVar_lst, DL.frz_lst, DL.fMax_m, DL.fMin_m, DL.fIsNot_i, DL.fIsNot_n, DL.fIs_i, DL.fIs_n, DL.fInt_b, DL.fAbs_i, DL.kF1, DL.kF2, DL.kF3, List.all_map]
theorem xLc_map {X : Type} (enc f : X → D) (xs : List X) {vs : List Nat} {mi : M (List D)} {g : Tg} {el : M D} {ρ ρ1 : List Slot} (h1 : mi ρ = .ok (xs.map enc) ρ1) (h2 : noIo ρ1 vs = true) (hl : xs.length ≤ 16777216)
    (h : ∀ x ∈ xs, ∃ ρ2 ρ3, g (enc x) (wipeS ρ1 vs) = some ρ2 ∧ el ρ2 = .ok (f x) ρ3 ∧ noIo ρ3 vs = true ∧ wipeS ρ3 vs = wipeS ρ1 vs) : xLc vs mi g mYes el ρ = .ok (.own (.lst (xs.map f))) (restS ρ1 (wipeS ρ1 vs) vs) := by
  have c := compT_map enc (vs := vs) (g := g) (tt := mYes) (el := el) (ρ0 := wipeS ρ1 vs) (fun _ => true) f xs fun x hx => by
    obtain ⟨ρ2, ρ3, e1, e2, e3, e4⟩ := h x hx
    exact ⟨ρ2, ρ2, e1, rfl, fun _ => ⟨ρ3, e2, e3, e4⟩, fun z => nomatch z⟩
  rw [List.filter_eq_self.mpr (fun _ _ => rfl)] at c
  exact xLc_ok h1 h2 (by rw [List.length_map]; exact hl) c
def Gd.good (g : Gd) : Bool := decide (0 ≤ g.l ∧ g.l ≤ g.h ∧ 0 ≤ g.r ∧ g.r < g.s)
def Stm.good (s : Stm) (lanes : Int) : Bool := (s.parts.all fun a => isArr a.nm) && (s.g.good && decide (s.g.h ≤ lanes))
end DL

set_option maxHeartbeats 1000000
namespace DL
open PySem L2
abbrev Kn.o (k : Kn) : O := .obj 0 [("lane_count", .int k.lanes), ("kept_statements", .tup (k.sts.map Stm.d)), ("kept_barriers", .tup (k.bars.map D.int))]
end DL

set_option maxHeartbeats 1000000
namespace DL
open PySem L2
theorem draw_ok {B : Bg} {n : Nat} (h : B.Ok n) (hn : n ≤ 1000000) {m : Int} (hm : 0 < m) (mm : Md 9000 m) : ∃ (r : Int) (B' : Bg), (∀ rest, callF F_law_draw [.io 0, .d (.int m)] (.io B.o :: rest) = .ok (.frz (.int r)) (.io B'.o :: rest)) ∧ (∀ s rest, callF F_law_draw [.io 1, .d (.int m)] (s :: .own B.o :: rest) = .ok (.frz (.int r)) (s :: .own B'.o :: rest)) ∧ 0 ≤ r ∧ r < m ∧ B'.Ok (n + 1) := by
  obtain ⟨r, B', e, h1, h2, h3⟩ := law_draw_ok h hn hm mm
  exact ⟨r, B', fun rest => callI1 (i := 0) (ρ := .io B.o :: rest) e rfl, fun s rest => callO1 (i := 1) (ρ := s :: .own B.o :: rest) e rfl, h1, h2, h3⟩
theorem draw_c {B : Bg} {n : Nat} (h : B.Ok n) (hn : n ≤ 1000000) (m : Nat) (hm : 0 < m) (mm : m < 2 ^ 20) : ∃ (r : Int) (B' : Bg), (∀ rest, callF F_law_draw [.io 0, .d (.int m)] (.io B.o :: rest) = .ok (.frz (.int r)) (.io B'.o :: rest)) ∧ (∀ s rest, callF F_law_draw [.io 1, .d (.int m)] (s :: .own B.o :: rest) = .ok (.frz (.int r)) (s :: .own B'.o :: rest)) ∧ 0 ≤ r ∧ r < m ∧ B'.Ok (n + 1) :=
  draw_ok h hn (by omega) (md_c (by simpa [-DL.fMax_ii, -DL.fMin_ii, DL.sSeq_def, DL.sAsg, DL.sSet, DL.sRet, DL.sIf, DL.gT, DL.gCn, DL.gN, DL.gNl, DL.eVar_frz, DL.eC, DL.e1, DL.e2, DL.eCh_def, DL.eTup, DL.aNil, DL.aCons, DL.opt_eq, DL.xD, DL.fz, DL.bE_def, DL.eAnd_def, DL.eOr_def, DL.eB, DL.eIf, DL.setS_no, DL.setS_frz, DL.setS_own, DL.outs, DL.optS, DL.xC, DL.rD, DL.rNil, DL.LINE, DL.sNx, DL.bAnd, DL.bOr, DL.bNot, DL.sBk, DL.sCt, DL.sDrop, DL.sRetN, DL.eVar_lst, DL.frz_lst, DL.fMax_m, DL.fMin_m, DL.fIsNot_i, DL.fIsNot_n, DL.fIs_i, DL.fIs_n, DL.fInt_b, DL.fAbs_i, DL.kF1, DL.kF2, DL.kF3] using mm) (by decide))
theorem at_ints {l : List Int} {r : Int} (h : 0 ≤ r) (h2 : r < l.length) : ∃ x ∈ l, fIx (.tup (l.map D.int)) (.int r) = some (.int x) := by
  obtain ⟨i, rfl⟩ := Int.eq_ofNat_of_zero_le h
  have hi : i < l.length := by omega
  refine ⟨l[i], List.getElem_mem hi, ?_⟩
  rw [fIx_tup, atI_nat', List.getElem?_map, List.getElem?_eq_getElem hi]
  rfl
theorem at_str {x : Str} (hx : x.length ≤ 16777216) {r : Int} (h : 0 ≤ r) (h2 : r < x.cps.toList.length) : ∃ c ∈ x.cps.toList, fIx (.str x) (.int r) = some (.str ⟨#[c]⟩) := by
  obtain ⟨i, rfl⟩ := Int.eq_ofNat_of_zero_le h
  have hi : i < x.cps.toList.length := by omega
  refine ⟨x.cps.toList[i], List.getElem_mem hi, ?_⟩
  show (if x.length ≤ LINE then (L2.atI x.cps.toList (i : Int)).map fun c => D.str ⟨#[c]⟩ else none) = _
  rw [if_pos hx]
  have : L2.atI x.cps.toList (i : Int) = some x.cps.toList[i] := atI_nat (List.getElem?_eq_getElem hi)
  rw [this]; rfl
structure Gd.In (g : Gd) (lanes : Int) : Prop where
  l0 : 0 ≤ g.l
  lh : g.l ≤ g.h
  hl : g.h ≤ lanes
  r0 : 0 ≤ g.r
  rs : g.r < g.s
  s5 : g.s ≤ 5
theorem Gd.In.good {g : Gd} {lanes : Int} (h : g.In lanes) : g.good = true := by
  have h0 := h.l0; have h1 := h.lh; have h2 := h.r0; have h3 := h.rs
  simp [-DL.fMax_ii, -DL.fMin_ii, DL.sSeq_def, DL.sAsg, DL.sSet, DL.sRet, DL.sIf, DL.gT, DL.gCn, DL.gN, DL.gNl, DL.eVar_frz, DL.eC, DL.e1, DL.e2, DL.eCh_def, DL.eTup, DL.aNil, DL.aCons, DL.opt_eq, DL.xD, DL.fz, DL.bE_def, DL.eAnd_def, DL.eOr_def, DL.eB, DL.eIf, DL.setS_no, DL.setS_frz, DL.setS_own, DL.outs, DL.optS, DL.xC, DL.rD, DL.rNil, DL.LINE, DL.sNx, DL.bAnd, DL.bOr, DL.bNot, DL.sBk, DL.sCt, DL.sDrop, DL.sRetN, DL.eVar_lst, DL.frz_lst, DL.fMax_m, DL.fMin_m, DL.fIsNot_i, DL.fIsNot_n, DL.fIs_i, DL.fIs_n, DL.fInt_b, DL.fAbs_i, DL.kF1, DL.kF2, DL.kF3, Gd.good, h0, h1, h2, h3]
theorem Gd.In.ok {g : Gd} {lanes : Int} (h : g.In lanes) (hl : Md 150 lanes) : g.Ok 200 := by
  have h0 := h.l0; have h1 := h.lh; have h2 := h.r0; have h3 := h.rs; have h4 := h.hl; have h5 := h.s5
  exact ⟨by omega, (hl.of_le (by omega)).up (by decide), (hl.of_le (by omega)).up (by decide), md_c (by simp [-DL.fMax_ii, -DL.fMin_ii, DL.sSeq_def, DL.sAsg, DL.sSet, DL.sRet, DL.sIf, DL.gT, DL.gCn, DL.gN, DL.gNl, DL.eVar_frz, DL.eC, DL.e1, DL.e2, DL.eCh_def, DL.eTup, DL.aNil, DL.aCons, DL.opt_eq, DL.xD, DL.fz, DL.bE_def, DL.eAnd_def, DL.eOr_def, DL.eB, DL.eIf, DL.setS_no, DL.setS_frz, DL.setS_own, DL.outs, DL.optS, DL.xC, DL.rD, DL.rNil, DL.LINE, DL.sNx, DL.bAnd, DL.bOr, DL.bNot, DL.sBk, DL.sCt, DL.sDrop, DL.sRetN, DL.eVar_lst, DL.frz_lst, DL.fMax_m, DL.fMin_m, DL.fIsNot_i, DL.fIsNot_n, DL.fIs_i, DL.fIs_n, DL.fInt_b, DL.fAbs_i, DL.kF1, DL.kF2, DL.kF3]; omega) (by decide), md_c (by simp [-DL.fMax_ii, -DL.fMin_ii, DL.sSeq_def, DL.sAsg, DL.sSet, DL.sRet, DL.sIf, DL.gT, DL.gCn, DL.gN, DL.gNl, DL.eVar_frz, DL.eC, DL.e1, DL.e2, DL.eCh_def, DL.eTup, DL.aNil, DL.aCons, DL.opt_eq, DL.xD, DL.fz, DL.bE_def, DL.eAnd_def, DL.eOr_def, DL.eB, DL.eIf, DL.setS_no, DL.setS_frz, DL.setS_own, DL.outs, DL.optS, DL.xC, DL.rD, DL.rNil, DL.LINE, DL.sNx, DL.bAnd, DL.bOr, DL.bNot, DL.sBk, DL.sCt, DL.sDrop, DL.sRetN, DL.eVar_lst, DL.frz_lst, DL.fMax_m, DL.fMin_m, DL.fIsNot_i, DL.fIsNot_n, DL.fIs_i, DL.fIs_n, DL.fInt_b, DL.fAbs_i, DL.kF1, DL.kF2, DL.kF3]; omega) (by decide)⟩
end DL

set_option maxHeartbeats 1000000
namespace DL
open PySem L2
def Stm.In (s : Stm) (lanes : Int) : Prop := s.good lanes = true ∧ s.Ok 200
end DL

set_option maxHeartbeats 1000000
namespace DL
open PySem L2
theorem bag_loop (ns : List Int) : ∀ (l : List Int) (b : Int) (g : List Int) (s3 : Slot), 0 ≤ b → b < 2305843009213693951 → (∀ x ∈ g, 0 ≤ x) → g.length + l.length ≤ 1000 → St s3 → ∃ (b' : Int) (g' : List Int) (z3 : Slot), forL (gN 3) (sSeq (sSet 1 (xD (e2 fMod (e2 fAdd (e2 fMul (eVar 1) (eC (.int 1000003))) (eVar 3)) (eC (.int 2305843009213693951))))) (sIf (bE (e2 fGe (eB fAbs (aCons (eVar 3) (aNil))) (e2 fPow (eC (.int 10)) (eC (.int 18))))) (sDrop (lstM 2 (aCons (eB fAbs (aCons (eVar 3) (aNil))) (aNil)) mApp)) (sNx))) (l.map D.int) [.frz (.scr ns), .frz (.int b), .own (.lst (g.map D.int)), s3] = .ok .nx [.frz (.scr ns), .frz (.int b'), .own (.lst (g'.map D.int)), z3] ∧ 0 ≤ b' ∧ b' < 2305843009213693951 ∧ (∀ x ∈ g', 0 ≤ x)
  | [], b, g, s3, h1, h2, h3, _, _ => ⟨b, g, s3, rfl, h1, h2, h3⟩
  | x :: l, b, g, s3, h1, h2, h3, hl, h4 => by
    have m1 : fMul (.int b) (.int 1000003) = some (.int (b * 1000003)) := fMul_i (Md.up (n := 70) (md_of (by omega)) (by decide)) (md_c (by decide) (by decide))
    have m2 : ∀ i : Int, fMod (.int i) (.int 2305843009213693951) = some (.int (i.fmod 2305843009213693951)) := fun i => fMod_i (by decide)
    have r := fmod_rng (a := b * 1000003 + x) (show (0 : Int) < 2305843009213693951 by decide)
    have gl : g.length < 16777216 := by simp [-DL.fMax_ii, -DL.fMin_ii, DL.sSeq_def, DL.sAsg, DL.sSet, DL.sRet, DL.sIf, DL.gT, DL.gCn, DL.gN, DL.gNl, DL.eVar_frz, DL.eC, DL.e1, DL.e2, DL.eCh_def, DL.eTup, DL.aNil, DL.aCons, DL.opt_eq, DL.xD, DL.fz, DL.bE_def, DL.eAnd_def, DL.eOr_def, DL.eB, DL.eIf, DL.setS_no, DL.setS_frz, DL.setS_own, DL.outs, DL.optS, DL.xC, DL.rD, DL.rNil, DL.LINE, DL.sNx, DL.bAnd, DL.bOr, DL.bNot, DL.sBk, DL.sCt, DL.sDrop, DL.sRetN, DL.eVar_lst, DL.frz_lst, DL.fMax_m, DL.fMin_m, DL.fIsNot_i, DL.fIsNot_n, DL.fIs_i, DL.fIs_n, DL.fInt_b, DL.fAbs_i, DL.kF1, DL.kF2, DL.kF3] at hl; omega
    by_cases c : (1000000000000000000 : Int) ≤ (x.natAbs : Int)
    · obtain ⟨b', g', z3, e, k⟩ := bag_loop ns l ((b * 1000003 + x).fmod 2305843009213693951) (g ++ [(x.natAbs : Int)]) (.frz (.int x)) r.1 r.2 (fun y hy => by
        rcases List.mem_append.mp hy with hy | hy
        · exact h3 y hy
        · rw [List.mem_singleton] at hy; omega) (by simp [-DL.fMax_ii, -DL.fMin_ii, DL.sSeq_def, DL.sAsg, DL.sSet, DL.sRet, DL.sIf, DL.gT, DL.gCn, DL.gN, DL.gNl, DL.eVar_frz, DL.eC, DL.e1, DL.e2, DL.eCh_def, DL.eTup, DL.aNil, DL.aCons, DL.opt_eq, DL.xD, DL.fz, DL.bE_def, DL.eAnd_def, DL.eOr_def, DL.eB, DL.eIf, DL.setS_no, DL.setS_frz, DL.setS_own, DL.outs, DL.optS, DL.xC, DL.rD, DL.rNil, DL.LINE, DL.sNx, DL.bAnd, DL.bOr, DL.bNot, DL.sBk, DL.sCt, DL.sDrop, DL.sRetN, DL.eVar_lst, DL.frz_lst, DL.fMax_m, DL.fMin_m, DL.fIsNot_i, DL.fIsNot_n, DL.fIs_i, DL.fIs_n, DL.fInt_b, DL.fAbs_i, DL.kF1, DL.kF2, DL.kF3] at hl ⊢; omega) (.frz _)
      refine ⟨b', g', z3, ?_, k⟩
      rw [List.map_cons, forL, ← e]
      simp [-DL.fMax_ii, -DL.fMin_ii, DL.sSeq_def, DL.sAsg, DL.sSet, DL.sRet, DL.sIf, DL.gT, DL.gCn, DL.gN, DL.gNl, DL.eVar_frz, DL.eC, DL.e1, DL.e2, DL.eCh_def, DL.eTup, DL.aNil, DL.aCons, DL.opt_eq, DL.xD, DL.fz, DL.bE_def, DL.eAnd_def, DL.eOr_def, DL.eB, DL.eIf, DL.setS_no, DL.setS_frz, DL.setS_own, DL.outs, DL.optS, DL.xC, DL.rD, DL.rNil, DL.LINE, DL.sNx, DL.bAnd, DL.bOr, DL.bNot, DL.sBk, DL.sCt, DL.sDrop, DL.sRetN, DL.eVar_lst, DL.frz_lst, DL.fMax_m, DL.fMin_m, DL.fIsNot_i, DL.fIsNot_n, DL.fIs_i, DL.fIs_n, DL.fInt_b, DL.fAbs_i, DL.kF1, DL.kF2, DL.kF3, setS_St _ h4, m1, m2, fPow18, c, lstM, lstI, slO, oOf, mApp, gl, putS, withO]
    · obtain ⟨b', g', z3, e, k⟩ := bag_loop ns l ((b * 1000003 + x).fmod 2305843009213693951) g (.frz (.int x)) r.1 r.2 h3 (by simp [-DL.fMax_ii, -DL.fMin_ii, DL.sSeq_def, DL.sAsg, DL.sSet, DL.sRet, DL.sIf, DL.gT, DL.gCn, DL.gN, DL.gNl, DL.eVar_frz, DL.eC, DL.e1, DL.e2, DL.eCh_def, DL.eTup, DL.aNil, DL.aCons, DL.opt_eq, DL.xD, DL.fz, DL.bE_def, DL.eAnd_def, DL.eOr_def, DL.eB, DL.eIf, DL.setS_no, DL.setS_frz, DL.setS_own, DL.outs, DL.optS, DL.xC, DL.rD, DL.rNil, DL.LINE, DL.sNx, DL.bAnd, DL.bOr, DL.bNot, DL.sBk, DL.sCt, DL.sDrop, DL.sRetN, DL.eVar_lst, DL.frz_lst, DL.fMax_m, DL.fMin_m, DL.fIsNot_i, DL.fIsNot_n, DL.fIs_i, DL.fIs_n, DL.fInt_b, DL.fAbs_i, DL.kF1, DL.kF2, DL.kF3] at hl ⊢; omega) (.frz _)
      refine ⟨b', g', z3, ?_, k⟩
      rw [List.map_cons, forL, ← e]
      simp [-DL.fMax_ii, -DL.fMin_ii, DL.sSeq_def, DL.sAsg, DL.sSet, DL.sRet, DL.sIf, DL.gT, DL.gCn, DL.gN, DL.gNl, DL.eVar_frz, DL.eC, DL.e1, DL.e2, DL.eCh_def, DL.eTup, DL.aNil, DL.aCons, DL.opt_eq, DL.xD, DL.fz, DL.bE_def, DL.eAnd_def, DL.eOr_def, DL.eB, DL.eIf, DL.setS_no, DL.setS_frz, DL.setS_own, DL.outs, DL.optS, DL.xC, DL.rD, DL.rNil, DL.LINE, DL.sNx, DL.bAnd, DL.bOr, DL.bNot, DL.sBk, DL.sCt, DL.sDrop, DL.sRetN, DL.eVar_lst, DL.frz_lst, DL.fMax_m, DL.fMin_m, DL.fIsNot_i, DL.fIsNot_n, DL.fIs_i, DL.fIs_n, DL.fInt_b, DL.fAbs_i, DL.kF1, DL.kF2, DL.kF3, setS_St _ h4, m1, m2, fPow18, c]
theorem law_bag_ok (ns : List Int) (h : ns.length ≤ 63) : ∃ B : Bg, F_law_bag [.frz (.scr ns)] = .ok (.own B.o) [] ∧ B.Ok 0 := by
  obtain ⟨b, g, z3, e, h1, h2, h3⟩ := bag_loop ns ns 11 [] .no (by decide) (by decide) (fun _ z => nomatch z) (by simp [-DL.fMax_ii, -DL.fMin_ii, DL.sSeq_def, DL.sAsg, DL.sSet, DL.sRet, DL.sIf, DL.gT, DL.gCn, DL.gN, DL.gNl, DL.eVar_frz, DL.eC, DL.e1, DL.e2, DL.eCh_def, DL.eTup, DL.aNil, DL.aCons, DL.opt_eq, DL.xD, DL.fz, DL.bE_def, DL.eAnd_def, DL.eOr_def, DL.eB, DL.eIf, DL.setS_no, DL.setS_frz, DL.setS_own, DL.outs, DL.optS, DL.xC, DL.rD, DL.rNil, DL.LINE, DL.sNx, DL.bAnd, DL.bOr, DL.bNot, DL.sBk, DL.sCt, DL.sDrop, DL.sRetN, DL.eVar_lst, DL.frz_lst, DL.fMax_m, DL.fMin_m, DL.fIsNot_i, DL.fIsNot_n, DL.fIs_i, DL.fIs_n, DL.fInt_b, DL.fAbs_i, DL.kF1, DL.kF2, DL.kF3]; omega) .no
  refine ⟨⟨g, 0, 0, b⟩, ?_, h3, by simp [-DL.fMax_ii, -DL.fMin_ii, DL.sSeq_def, DL.sAsg, DL.sSet, DL.sRet, DL.sIf, DL.gT, DL.gCn, DL.gN, DL.gNl, DL.eVar_frz, DL.eC, DL.e1, DL.e2, DL.eCh_def, DL.eTup, DL.aNil, DL.aCons, DL.opt_eq, DL.xD, DL.fz, DL.bE_def, DL.eAnd_def, DL.eOr_def, DL.eB, DL.eIf, DL.setS_no, DL.setS_frz, DL.setS_own, DL.outs, DL.optS, DL.xC, DL.rD, DL.rNil, DL.LINE, DL.sNx, DL.bAnd, DL.bOr, DL.bNot, DL.sBk, DL.sCt, DL.sDrop, DL.sRetN, DL.eVar_lst, DL.frz_lst, DL.fMax_m, DL.fMin_m, DL.fIsNot_i, DL.fIsNot_n, DL.fIs_i, DL.fIs_n, DL.fInt_b, DL.fAbs_i, DL.kF1, DL.kF2, DL.kF3], by simp [-DL.fMax_ii, -DL.fMin_ii, DL.sSeq_def, DL.sAsg, DL.sSet, DL.sRet, DL.sIf, DL.gT, DL.gCn, DL.gN, DL.gNl, DL.eVar_frz, DL.eC, DL.e1, DL.e2, DL.eCh_def, DL.eTup, DL.aNil, DL.aCons, DL.opt_eq, DL.xD, DL.fz, DL.bE_def, DL.eAnd_def, DL.eOr_def, DL.eB, DL.eIf, DL.setS_no, DL.setS_frz, DL.setS_own, DL.outs, DL.optS, DL.xC, DL.rD, DL.rNil, DL.LINE, DL.sNx, DL.bAnd, DL.bOr, DL.bNot, DL.sBk, DL.sCt, DL.sDrop, DL.sRetN, DL.eVar_lst, DL.frz_lst, DL.fMax_m, DL.fMin_m, DL.fIsNot_i, DL.fIsNot_n, DL.fIs_i, DL.fIs_n, DL.fInt_b, DL.fAbs_i, DL.kF1, DL.kF2, DL.kF3], h1, h2⟩
  unfold F_law_bag
  rw [mfn_run [.frz (.scr ns), .no, .no, .no]]
  unfold m_law_bag
  simp only [List.map_nil] at e
  simp [-DL.fMax_ii, -DL.fMin_ii, DL.sSeq_def, DL.sAsg, DL.sSet, DL.sRet, DL.sIf, DL.gT, DL.gCn, DL.gN, DL.gNl, DL.eVar_frz, DL.eC, DL.e1, DL.e2, DL.eCh_def, DL.eTup, DL.aNil, DL.aCons, DL.opt_eq, DL.xD, DL.fz, DL.bE_def, DL.eAnd_def, DL.eOr_def, DL.eB, DL.eIf, DL.setS_no, DL.setS_frz, DL.setS_own, DL.outs, DL.optS, DL.xC, DL.rD, DL.rNil, DL.LINE, DL.sNx, DL.bAnd, DL.bOr, DL.bNot, DL.sBk, DL.sCt, DL.sDrop, DL.sRetN, DL.eVar_lst, DL.frz_lst, DL.fMax_m, DL.fMin_m, DL.fIsNot_i, DL.fIsNot_n, DL.fIs_i, DL.fIs_n, DL.fInt_b, DL.fAbs_i, DL.kF1, DL.kF2, DL.kF3, sPar, heldOk, noX, xLst, sFor, iAny, e, xBag]
end DL

set_option maxHeartbeats 1000000
namespace DL
open PySem L2
abbrev tls (x : Str) : List Nat := x.cps.toList
def SOk (x : Str) : Prop := PyData.strOk x = true ∧ x.length ≤ 100000
theorem len_tls (x : Str) : x.length = (tls x).length := by simp [-DL.fMax_ii, -DL.fMin_ii, DL.sSeq_def, DL.sAsg, DL.sSet, DL.sRet, DL.sIf, DL.gT, DL.gCn, DL.gN, DL.gNl, DL.eVar_frz, DL.eC, DL.e1, DL.e2, DL.eCh_def, DL.eTup, DL.aNil, DL.aCons, DL.opt_eq, DL.xD, DL.fz, DL.bE_def, DL.eAnd_def, DL.eOr_def, DL.eB, DL.eIf, DL.setS_no, DL.setS_frz, DL.setS_own, DL.outs, DL.optS, DL.xC, DL.rD, DL.rNil, DL.LINE, DL.sNx, DL.bAnd, DL.bOr, DL.bNot, DL.sBk, DL.sCt, DL.sDrop, DL.sRetN, DL.eVar_lst, DL.frz_lst, DL.fMax_m, DL.fMin_m, DL.fIsNot_i, DL.fIsNot_n, DL.fIs_i, DL.fIs_n, DL.fInt_b, DL.fAbs_i, DL.kF1, DL.kF2, DL.kF3, Str.length]
theorem sok_tls {x : Str} : PyData.strOk x = true ↔ ∀ c ∈ tls x, c < 0x110000 := by
  unfold PyData.strOk
  rw [Array.all_eq_true_iff_forall_mem]
  simp [-DL.fMax_ii, -DL.fMin_ii, DL.sSeq_def, DL.sAsg, DL.sSet, DL.sRet, DL.sIf, DL.gT, DL.gCn, DL.gN, DL.gNl, DL.eVar_frz, DL.eC, DL.e1, DL.e2, DL.eCh_def, DL.eTup, DL.aNil, DL.aCons, DL.opt_eq, DL.xD, DL.fz, DL.bE_def, DL.eAnd_def, DL.eOr_def, DL.eB, DL.eIf, DL.setS_no, DL.setS_frz, DL.setS_own, DL.outs, DL.optS, DL.xC, DL.rD, DL.rNil, DL.LINE, DL.sNx, DL.bAnd, DL.bOr, DL.bNot, DL.sBk, DL.sCt, DL.sDrop, DL.sRetN, DL.eVar_lst, DL.frz_lst, DL.fMax_m, DL.fMin_m, DL.fIsNot_i, DL.fIsNot_n, DL.fIs_i, DL.fIs_n, DL.fInt_b, DL.fAbs_i, DL.kF1, DL.kF2, DL.kF3]
end DL

set_option maxHeartbeats 1000000
namespace DL
open PySem L2
theorem fNe_self {x : Str} (h : SOk x) : fNe (.str x) (.str x) = some (.bl false) := by
  have := fEq_ss x x h.1 h.1
  unfold fEq at this
  unfold fNe
  split at this
  · rename_i c
    rw [if_pos c]
    have := Option.some.inj this
    rw [D.bl.injEq] at this
    rw [this]; simp [-DL.fMax_ii, -DL.fMin_ii, DL.sSeq_def, DL.sAsg, DL.sSet, DL.sRet, DL.sIf, DL.gT, DL.gCn, DL.gN, DL.gNl, DL.eVar_frz, DL.eC, DL.e1, DL.e2, DL.eCh_def, DL.eTup, DL.aNil, DL.aCons, DL.opt_eq, DL.xD, DL.fz, DL.bE_def, DL.eAnd_def, DL.eOr_def, DL.eB, DL.eIf, DL.setS_no, DL.setS_frz, DL.setS_own, DL.outs, DL.optS, DL.xC, DL.rD, DL.rNil, DL.LINE, DL.sNx, DL.bAnd, DL.bOr, DL.bNot, DL.sBk, DL.sCt, DL.sDrop, DL.sRetN, DL.eVar_lst, DL.frz_lst, DL.fMax_m, DL.fMin_m, DL.fIsNot_i, DL.fIsNot_n, DL.fIs_i, DL.fIs_n, DL.fInt_b, DL.fAbs_i, DL.kF1, DL.kF2, DL.kF3]
  · cases this
end DL

set_option maxHeartbeats 1000000
namespace DL
open PySem L2
structure Gd.Nn (g : Gd) : Prop where
  l : 0 ≤ g.l ∧ g.l < 10 ^ 100
  h : 0 ≤ g.h ∧ g.h < 10 ^ 100
  s : 0 ≤ g.s ∧ g.s < 10 ^ 100
  r : 0 ≤ g.r ∧ g.r < 10 ^ 100
abbrev sI (i : Int) : Str := Str.ofString (toString i)
theorem tls_sI {i : Int} (h : 0 ≤ i) : tls (sI i) = TL.numL i.toNat := by
  have := TL.tl_num i.toNat
  rw [Int.toNat_of_nonneg h] at this
  exact this
theorem len_sI {i : Int} (h : 0 ≤ i ∧ i < 10 ^ 100) : (TL.numL i.toNat).length ≤ 100 := TL.numL_len (by decide) (by
  have e : ((10 ^ 100 : Nat) : Int) = 10 ^ 100 := by norm_cast
  omega)
theorem log_sI {i : Int} (h : 0 ≤ i ∧ i < 10 ^ 100) : i.natAbs.log2 < 1920 := by
  by_cases z : i.natAbs = 0
  · rw [z]; decide
  · refine (Nat.log2_lt z).mpr ?_
    have : i.natAbs < 10 ^ 100 := by
      have e : ((10 ^ 100 : Nat) : Int) = 10 ^ 100 := by norm_cast
      omega
    exact Nat.lt_trans this (by decide +kernel)
abbrev gdL (g : Gd) : List Int := [g.l, g.h, g.s, g.r]
theorem Gd.Nn.all {g : Gd} (h : g.Nn) : ∀ i ∈ gdL g, 0 ≤ i ∧ i < 10 ^ 100 := fun i hi => by
  simp [-DL.fMax_ii, -DL.fMin_ii, DL.sSeq_def, DL.sAsg, DL.sSet, DL.sRet, DL.sIf, DL.gT, DL.gCn, DL.gN, DL.gNl, DL.eVar_frz, DL.eC, DL.e1, DL.e2, DL.eCh_def, DL.eTup, DL.aNil, DL.aCons, DL.opt_eq, DL.xD, DL.fz, DL.bE_def, DL.eAnd_def, DL.eOr_def, DL.eB, DL.eIf, DL.setS_no, DL.setS_frz, DL.setS_own, DL.outs, DL.optS, DL.xC, DL.rD, DL.rNil, DL.LINE, DL.sNx, DL.bAnd, DL.bOr, DL.bNot, DL.sBk, DL.sCt, DL.sDrop, DL.sRetN, DL.eVar_lst, DL.frz_lst, DL.fMax_m, DL.fMin_m, DL.fIsNot_i, DL.fIsNot_n, DL.fIs_i, DL.fIs_n, DL.fInt_b, DL.fAbs_i, DL.kF1, DL.kF2, DL.kF3] at hi
  rcases hi with rfl | rfl | rfl | rfl
  · exact h.l
  · exact h.h
  · exact h.s
  · exact h.r
end DL

set_option maxHeartbeats 1000000
namespace DL
open PySem L2
def SL (n : Nat) (x : Str) : Prop := PyData.strOk x = true ∧ x.length ≤ n
theorem SL.app {n m : Nat} {x y : Str} (h : SL n x) (h2 : SL m y) : SL (n + m) (x ++ y) := by
  refine ⟨sok_tls.mpr fun c hc => ?_, ?_⟩
  · have hc : c ∈ TL.tl (x ++ y) := hc
    rw [TL.tl_append] at hc
    rcases List.mem_append.mp hc with z | z
    · exact sok_tls.mp h.1 c z
    · exact sok_tls.mp h2.1 c z
  · have := h.2
    have := h2.2
    have e := len_tls (x ++ y)
    have e2 : tls (x ++ y) = tls x ++ tls y := TL.tl_append x y
    rw [e2, List.length_append, ← len_tls, ← len_tls] at e
    omega
end DL

set_option maxHeartbeats 1000000
namespace DL
open PySem L2
theorem small62_q {n : Nat} (h : n ≤ 1000000) : small62 (n : Int) := ⟨by omega, by omega⟩
theorem iR1_q {ms : M (List D)} {ρ ρ1 : List Slot} {n : Nat} (h : ms ρ = .ok [.int n] ρ1) (hn : n ≤ 1000000) : iR1 ms ρ = .ok (((List.range n).map fun i : Nat => (i : Int)).map D.int) ρ1 := by
  unfold iR1
  rw [h]
  show (if small62 (n : Int) then Res.ok (rng 0 (n : Int).toNat) ρ1 else Res.bad) = _
  rw [if_pos (small62_q hn), Int.toNat_natCast]
  unfold rng
  rw [List.map_map]
  simp only [Int.zero_add]
  rfl
theorem sl_sI {i : Int} (h : 0 ≤ i ∧ i < 10 ^ 100) : SL 100 (sI i) := by
  refine ⟨sok_tls.mpr fun c hc => ?_, by rw [len_tls, tls_sI h.1]; exact len_sI h⟩
  rw [tls_sI h.1] at hc
  have := TL.numL_digits _ c hc
  omega
theorem fRepr_def (d : D) : fRepr [d] = if PyData.canLay0 d.py = true ∧ d.py.showable = true ∧ d.py.depth ≤ 60 ∧ d.py.shown.length ≤ sizeLine then some (.str d.py.shown) else none := rfl
end DL

set_option maxHeartbeats 1000000
namespace DL
open PySem L2
/-! K80a: k80: what is made, the flags. -/
theorem ecs_eq : ecs = [15, 17, 14, 11, 12, 16, 18, 13, 21, 22, 20, 10, 19, 23] := rfl
def madeL (d : D) : List D := (List.range 13).map fun i => D.tup [.exn (11 + i) d, .exn (11 + i) d]
theorem made_ok (d : D) : F_law_made [.frz d] = .ok (.own (.lst (madeL d))) [] := by
  unfold F_law_made
  rw [mfn_run [.frz d, .no]]
  unfold m_law_made
  simp [-DL.fMax_ii, -DL.fMin_ii, DL.sSeq_def, DL.sAsg, DL.sSet, DL.sRet, DL.sIf, DL.gT, DL.gCn, DL.gN, DL.gNl, DL.eVar_frz, DL.eC, DL.e1, DL.e2, DL.eCh_def, DL.eTup, DL.aNil, DL.aCons, DL.opt_eq, DL.xD, DL.fz, DL.bE_def, DL.eAnd_def, DL.eOr_def, DL.eB, DL.eIf, DL.setS_no, DL.setS_frz, DL.setS_own, DL.outs, DL.optS, DL.xC, DL.rD, DL.rNil, DL.LINE, DL.sNx, DL.bAnd, DL.bOr, DL.bNot, DL.sBk, DL.sCt, DL.sDrop, DL.sRetN, DL.eVar_lst, DL.frz_lst, DL.fMax_m, DL.fMin_m, DL.fIsNot_i, DL.fIsNot_n, DL.fIs_i, DL.fIs_n, DL.fInt_b, DL.fAbs_i, DL.kF1, DL.kF2, DL.kF3, xLst, eMkE, eMkEK, lstM, lstI, slO, oOf, mApp, putS, withO, eMov]
  rfl
def flagsL (c : Nat) : List Bool := (List.range 13).map fun i => decide (c = 11 + i)
theorem flags_ok {c : Nat} (d : D) (hc : c ∈ ecs) : F_law_flags [.frz (.exn c d)] = .ok (.own (.lst ((flagsL c).map .bl))) [] := by
  unfold F_law_flags
  rw [mfn_run [.frz (.exn c d), .no]]
  unfold m_law_flags
  simp [-DL.fMax_ii, -DL.fMin_ii, DL.sSeq_def, DL.sAsg, DL.sSet, DL.sRet, DL.sIf, DL.gT, DL.gCn, DL.gN, DL.gNl, DL.eVar_frz, DL.eC, DL.e1, DL.e2, DL.eCh_def, DL.eTup, DL.aNil, DL.aCons, DL.opt_eq, DL.xD, DL.fz, DL.bE_def, DL.eAnd_def, DL.eOr_def, DL.eB, DL.eIf, DL.setS_no, DL.setS_frz, DL.setS_own, DL.outs, DL.optS, DL.xC, DL.rD, DL.rNil, DL.LINE, DL.sNx, DL.bAnd, DL.bOr, DL.bNot, DL.sBk, DL.sCt, DL.sDrop, DL.sRetN, DL.eVar_lst, DL.frz_lst, DL.fMax_m, DL.fMin_m, DL.fIsNot_i, DL.fIsNot_n, DL.fIs_i, DL.fIs_n, DL.fInt_b, DL.fAbs_i, DL.kF1, DL.kF2, DL.kF3, xLst, fExIs, hc, lstM, lstI, slO, oOf, mApp, mExt, seqOf, putS, withO, eMov]
  rfl
end DL

set_option maxHeartbeats 1000000
namespace DL
open PySem L2
/-! K80b: k80: what is shown, the loops. -/
def Th (d : D) : Prop := ∃ T, fRepr [d] = some (.str T) ∧ SOk T
theorem th_of {d : D} (h1 : PyData.canLay0 d.py = true) (h2 : d.py.showable = true) (h3 : d.py.depth ≤ 60) (h4 : SOk d.py.shown) : Th d :=
  ⟨d.py.shown, (fRepr_def d).trans (if_pos ⟨h1, h2, h3, Nat.le_trans h4.2 (by rw [sizeLine_eq]; decide)⟩), h4⟩
theorem th_non : Th .non := th_of (by rfl) (by decide +kernel) (by decide) ⟨by decide +kernel, by decide +kernel⟩
theorem th_t4 : Th (.tup [.int 0, .int 1, .int 2, .int 3]) := th_of (by rfl) (by decide +kernel) (by decide +kernel) ⟨by decide +kernel, by decide +kernel⟩
theorem th_t2 : Th (.tup [.int 0, .int 2]) := th_of (by rfl) (by decide +kernel) (by decide +kernel) ⟨by decide +kernel, by decide +kernel⟩
theorem th_str : Th (.str "text") := th_of (by decide +kernel) (by decide +kernel) (by decide +kernel) ⟨by decide +kernel, by decide +kernel⟩
theorem th_neg : Th (.int (-1)) := th_of (by rfl) (by decide +kernel) (by decide) ⟨by decide +kernel, by decide +kernel⟩
theorem th_int {i : Int} (h : 0 ≤ i ∧ i < 10 ^ 100) : Th (.int i) :=
  th_of (by rfl) (decide_eq_true (log_sI h)) (by show (0 : Nat) ≤ 60; decide) ⟨(sl_sI h).1, Nat.le_trans (sl_sI h).2 (by decide)⟩
theorem Th.ne {d : D} (h : Th d) : ∃ T, fRepr [d] = some (.str T) ∧ fNe (.str T) (.str T) = some (.bl false) := by
  obtain ⟨T, e, s⟩ := h
  exact ⟨T, e, fNe_self s⟩
def spotL (p : Nat) : List D := ((List.range 13).map fun i : Nat => (i : Int)).map fun (i : Int) => .bl (decide (i = p))
theorem lay_bls : ∀ l : List Bool, PyData.canLayAll0 (pyAll (l.map D.bl)) = true ∧ PyData.depthAll (pyAll (l.map D.bl)) = 0
  | [] => ⟨rfl, rfl⟩
  | b :: l => by
    obtain ⟨h1, h2⟩ := lay_bls l
    refine ⟨?_, ?_⟩
    · show (true && PyData.canLayAll0 (pyAll (l.map D.bl))) = true
      rw [h1]; rfl
    · show max 0 (PyData.depthAll (pyAll (l.map D.bl))) = 0
      rw [h2]; rfl
theorem sh_bls (l : List Bool) : SeqAt.shaped (D.lst (l.map .bl)).py = true := by
  obtain ⟨h1, h2⟩ := lay_bls l
  unfold SeqAt.shaped
  show (PyData.canLayAll0 (pyAll (l.map D.bl)) && decide (PyData.depthAll (pyAll (l.map D.bl)) + 1 ≤ 64)) = true
  rw [h1, h2]; rfl
theorem eqv_bls : ∀ l : List Bool, PyData.eqvAll (pyAll (l.map D.bl)) (pyAll (l.map D.bl)) = true
  | [] => rfl
  | b :: l => by
    show (PyData.eqv (.bool b) (.bool b) && PyData.eqvAll (pyAll (l.map D.bl)) (pyAll (l.map D.bl))) = true
    rw [eqv_bls l]; cases b <;> rfl
theorem fNe_bls (l : List Bool) : fNe (.lst (l.map .bl)) (.lst (l.map .bl)) = some (.bl false) := by
  unfold fNe
  rw [if_pos ⟨sh_bls l, sh_bls l⟩]
  have : PyData.eqv (D.lst (l.map .bl)).py (D.lst (l.map .bl)).py = true := eqv_bls l
  rw [this]; rfl
theorem fEq_bls (l : List Bool) : fEq (.lst (l.map .bl)) (.lst (l.map .bl)) = some (.bl true) := by
  unfold fEq
  rw [if_pos ⟨sh_bls l, sh_bls l⟩]
  have : PyData.eqv (D.lst (l.map .bl)).py (D.lst (l.map .bl)).py = true := eqv_bls l
  rw [this]
theorem spot_eq (p : Nat) : spotL p = (flagsL (11 + p)).map .bl := by
  unfold spotL flagsL
  rw [List.map_map, List.map_map]
  refine List.map_congr_left fun i _ => ?_
  show D.bl (decide ((i : Int) = p)) = D.bl (decide (11 + p = 11 + i))
  congr 1
  rw [decide_eq_decide]
  omega
theorem ne_flags (p : Nat) (h : p < 13) : fNe (.lst ((flagsL (11 + p)).map .bl)) (.lst (spotL p)) = some (.bl false) := by
  rw [spot_eq]; exact fNe_bls _
theorem in_ecs (p : Nat) (h : p < 13) : 11 + p ∈ ecs := by
  have : p = 0 ∨ p = 1 ∨ p = 2 ∨ p = 3 ∨ p = 4 ∨ p = 5 ∨ p = 6 ∨ p = 7 ∨ p = 8 ∨ p = 9 ∨ p = 10 ∨ p = 11 ∨ p = 12 := by omega
  rcases this with rfl | rfl | rfl | rfl | rfl | rfl | rfl | rfl | rfl | rfl | rfl | rfl | rfl <;> decide
noncomputable abbrev eBody : M Fl := (sSeq (sIf (bOr (bE (e2 fNe (eB fRepr (aCons (e1 (fXv ecs) (eVar 6)) (aNil))) (eB fRepr (aCons (eVar 3) (aNil))))) (bOr (bNot (bE (e1 (fExIs ecs (fun _ => true)) (eVar 6)))) (bNot (bE (e1 (fExIs ecs (fun _ => true)) (eVar 6)))))) (sRet (xD (eC (.bl false)))) (sNx)) (sIf (bE (e2 fNe (fz (xC F_law_flags [] (rD (eVar 6) (rNil)))) (fz (xLc [7] (iR1 (aCons (eC (.int 13)) (aNil))) (gN 7) (mYes) (e2 fEq (eVar 7) (eVar 5)))))) (sRet (xD (eC (.bl false)))) (sNx)))
theorem spot_comp (s0 s1 s2 s3 s4 s6 : Slot) (p : Nat) : xLc [7] (iR1 (aCons (eC (.int 13)) (aNil))) (gN 7) (mYes) (e2 fEq (eVar 7) (eVar 5)) [s0, s1, s2, s3, s4, .frz (.int p), s6, .no] = .ok (.own (.lst (spotL p))) [s0, s1, s2, s3, s4, .frz (.int p), s6, .no] := by
  have h1 : iR1 (aCons (eC (.int 13)) (aNil)) [s0, s1, s2, s3, s4, .frz (.int p), s6, .no] = .ok (((List.range 13).map fun i : Nat => (i : Int)).map D.int) [s0, s1, s2, s3, s4, .frz (.int p), s6, .no] := iR1_q (n := 13) (by simp [-DL.fMax_ii, -DL.fMin_ii, DL.sSeq_def, DL.sAsg, DL.sSet, DL.sRet, DL.sIf, DL.gT, DL.gCn, DL.gN, DL.gNl, DL.eVar_frz, DL.eC, DL.e1, DL.e2, DL.eCh_def, DL.eTup, DL.aNil, DL.aCons, DL.opt_eq, DL.xD, DL.fz, DL.bE_def, DL.eAnd_def, DL.eOr_def, DL.eB, DL.eIf, DL.setS_no, DL.setS_frz, DL.setS_own, DL.outs, DL.optS, DL.xC, DL.rD, DL.rNil, DL.LINE, DL.sNx, DL.bAnd, DL.bOr, DL.bNot, DL.sBk, DL.sCt, DL.sDrop, DL.sRetN, DL.eVar_lst, DL.frz_lst, DL.fMax_m, DL.fMin_m, DL.fIsNot_i, DL.fIsNot_n, DL.fIs_i, DL.fIs_n, DL.fInt_b, DL.fAbs_i, DL.kF1, DL.kF2, DL.kF3]) (by decide)
  have h := xLc_map D.int (fun (i : Int) => .bl (decide (i = p))) ((List.range 13).map fun i : Nat => (i : Int)) (vs := [7]) (g := gN 7) (el := e2 fEq (eVar 7) (eVar 5)) h1 (by simp [-DL.fMax_ii, -DL.fMin_ii, DL.sSeq_def, DL.sAsg, DL.sSet, DL.sRet, DL.sIf, DL.gT, DL.gCn, DL.gN, DL.gNl, DL.eVar_frz, DL.eC, DL.e1, DL.e2, DL.eCh_def, DL.eTup, DL.aNil, DL.aCons, DL.opt_eq, DL.xD, DL.fz, DL.bE_def, DL.eAnd_def, DL.eOr_def, DL.eB, DL.eIf, DL.setS_no, DL.setS_frz, DL.setS_own, DL.outs, DL.optS, DL.xC, DL.rD, DL.rNil, DL.LINE, DL.sNx, DL.bAnd, DL.bOr, DL.bNot, DL.sBk, DL.sCt, DL.sDrop, DL.sRetN, DL.eVar_lst, DL.frz_lst, DL.fMax_m, DL.fMin_m, DL.fIsNot_i, DL.fIsNot_n, DL.fIs_i, DL.fIs_n, DL.fInt_b, DL.fAbs_i, DL.kF1, DL.kF2, DL.kF3, noIo]) (by simp [-DL.fMax_ii, -DL.fMin_ii, DL.sSeq_def, DL.sAsg, DL.sSet, DL.sRet, DL.sIf, DL.gT, DL.gCn, DL.gN, DL.gNl, DL.eVar_frz, DL.eC, DL.e1, DL.e2, DL.eCh_def, DL.eTup, DL.aNil, DL.aCons, DL.opt_eq, DL.xD, DL.fz, DL.bE_def, DL.eAnd_def, DL.eOr_def, DL.eB, DL.eIf, DL.setS_no, DL.setS_frz, DL.setS_own, DL.outs, DL.optS, DL.xC, DL.rD, DL.rNil, DL.LINE, DL.sNx, DL.bAnd, DL.bOr, DL.bNot, DL.sBk, DL.sCt, DL.sDrop, DL.sRetN, DL.eVar_lst, DL.frz_lst, DL.fMax_m, DL.fMin_m, DL.fIsNot_i, DL.fIsNot_n, DL.fIs_i, DL.fIs_n, DL.fInt_b, DL.fAbs_i, DL.kF1, DL.kF2, DL.kF3])
    (fun i _ => ⟨[s0, s1, s2, s3, s4, .frz (.int p), s6, .frz (.int i)], [s0, s1, s2, s3, s4, .frz (.int p), s6, .frz (.int i)], by simp [-DL.fMax_ii, -DL.fMin_ii, DL.sSeq_def, DL.sAsg, DL.sSet, DL.sRet, DL.sIf, DL.gT, DL.gCn, DL.gN, DL.gNl, DL.eVar_frz, DL.eC, DL.e1, DL.e2, DL.eCh_def, DL.eTup, DL.aNil, DL.aCons, DL.opt_eq, DL.xD, DL.fz, DL.bE_def, DL.eAnd_def, DL.eOr_def, DL.eB, DL.eIf, DL.setS_no, DL.setS_frz, DL.setS_own, DL.outs, DL.optS, DL.xC, DL.rD, DL.rNil, DL.LINE, DL.sNx, DL.bAnd, DL.bOr, DL.bNot, DL.sBk, DL.sCt, DL.sDrop, DL.sRetN, DL.eVar_lst, DL.frz_lst, DL.fMax_m, DL.fMin_m, DL.fIsNot_i, DL.fIsNot_n, DL.fIs_i, DL.fIs_n, DL.fInt_b, DL.fAbs_i, DL.kF1, DL.kF2, DL.kF3, wipeS], by simp [-DL.fMax_ii, -DL.fMin_ii, DL.sSeq_def, DL.sAsg, DL.sSet, DL.sRet, DL.sIf, DL.gT, DL.gCn, DL.gN, DL.gNl, DL.eVar_frz, DL.eC, DL.e1, DL.e2, DL.eCh_def, DL.eTup, DL.aNil, DL.aCons, DL.opt_eq, DL.xD, DL.fz, DL.bE_def, DL.eAnd_def, DL.eOr_def, DL.eB, DL.eIf, DL.setS_no, DL.setS_frz, DL.setS_own, DL.outs, DL.optS, DL.xC, DL.rD, DL.rNil, DL.LINE, DL.sNx, DL.bAnd, DL.bOr, DL.bNot, DL.sBk, DL.sCt, DL.sDrop, DL.sRetN, DL.eVar_lst, DL.frz_lst, DL.fMax_m, DL.fMin_m, DL.fIsNot_i, DL.fIsNot_n, DL.fIs_i, DL.fIs_n, DL.fInt_b, DL.fAbs_i, DL.kF1, DL.kF2, DL.kF3], by simp [-DL.fMax_ii, -DL.fMin_ii, DL.sSeq_def, DL.sAsg, DL.sSet, DL.sRet, DL.sIf, DL.gT, DL.gCn, DL.gN, DL.gNl, DL.eVar_frz, DL.eC, DL.e1, DL.e2, DL.eCh_def, DL.eTup, DL.aNil, DL.aCons, DL.opt_eq, DL.xD, DL.fz, DL.bE_def, DL.eAnd_def, DL.eOr_def, DL.eB, DL.eIf, DL.setS_no, DL.setS_frz, DL.setS_own, DL.outs, DL.optS, DL.xC, DL.rD, DL.rNil, DL.LINE, DL.sNx, DL.bAnd, DL.bOr, DL.bNot, DL.sBk, DL.sCt, DL.sDrop, DL.sRetN, DL.eVar_lst, DL.frz_lst, DL.fMax_m, DL.fMin_m, DL.fIsNot_i, DL.fIsNot_n, DL.fIs_i, DL.fIs_n, DL.fInt_b, DL.fAbs_i, DL.kF1, DL.kF2, DL.kF3, noIo], by simp [-DL.fMax_ii, -DL.fMin_ii, DL.sSeq_def, DL.sAsg, DL.sSet, DL.sRet, DL.sIf, DL.gT, DL.gCn, DL.gN, DL.gNl, DL.eVar_frz, DL.eC, DL.e1, DL.e2, DL.eCh_def, DL.eTup, DL.aNil, DL.aCons, DL.opt_eq, DL.xD, DL.fz, DL.bE_def, DL.eAnd_def, DL.eOr_def, DL.eB, DL.eIf, DL.setS_no, DL.setS_frz, DL.setS_own, DL.outs, DL.optS, DL.xC, DL.rD, DL.rNil, DL.LINE, DL.sNx, DL.bAnd, DL.bOr, DL.bNot, DL.sBk, DL.sCt, DL.sDrop, DL.sRetN, DL.eVar_lst, DL.frz_lst, DL.fMax_m, DL.fMin_m, DL.fIsNot_i, DL.fIsNot_n, DL.fIs_i, DL.fIs_n, DL.fInt_b, DL.fAbs_i, DL.kF1, DL.kF2, DL.kF3, wipeS]⟩)
  rw [h]
  simp [-DL.fMax_ii, -DL.fMin_ii, DL.sSeq_def, DL.sAsg, DL.sSet, DL.sRet, DL.sIf, DL.gT, DL.gCn, DL.gN, DL.gNl, DL.eVar_frz, DL.eC, DL.e1, DL.e2, DL.eCh_def, DL.eTup, DL.aNil, DL.aCons, DL.opt_eq, DL.xD, DL.fz, DL.bE_def, DL.eAnd_def, DL.eOr_def, DL.eB, DL.eIf, DL.setS_no, DL.setS_frz, DL.setS_own, DL.outs, DL.optS, DL.xC, DL.rD, DL.rNil, DL.LINE, DL.sNx, DL.bAnd, DL.bOr, DL.bNot, DL.sBk, DL.sCt, DL.sDrop, DL.sRetN, DL.eVar_lst, DL.frz_lst, DL.fMax_m, DL.fMin_m, DL.fIsNot_i, DL.fIsNot_n, DL.fIs_i, DL.fIs_n, DL.fInt_b, DL.fAbs_i, DL.kF1, DL.kF2, DL.kF3, restS, wipeS]
  rfl
theorem ebody_ok (s0 s1 s2 s4 : Slot) {d : D} (hd : Th d) (p : Nat) (hp : p < 13) : eBody [s0, s1, s2, .frz d, s4, .frz (.int p), .frz (.exn (11 + p) d), .no] = .ok .nx [s0, s1, s2, .frz d, s4, .frz (.int p), .frz (.exn (11 + p) d), .no] := by
  obtain ⟨T, e, n⟩ := hd.ne
  have i := in_ecs p hp
  have f := flags_ok d i
  have c := spot_comp s0 s1 s2 (.frz d) s4 (.frz (.exn (11 + p) d)) p
  have n2 := ne_flags p hp
  simp [-DL.fMax_ii, -DL.fMin_ii, DL.sSeq_def, DL.sAsg, DL.sSet, DL.sRet, DL.sIf, DL.gT, DL.gCn, DL.gN, DL.gNl, DL.eVar_frz, DL.eC, DL.e1, DL.e2, DL.eCh_def, DL.eTup, DL.aNil, DL.aCons, DL.opt_eq, DL.xD, DL.fz, DL.bE_def, DL.eAnd_def, DL.eOr_def, DL.eB, DL.eIf, DL.setS_no, DL.setS_frz, DL.setS_own, DL.outs, DL.optS, DL.xC, DL.rD, DL.rNil, DL.LINE, DL.sNx, DL.bAnd, DL.bOr, DL.bNot, DL.sBk, DL.sCt, DL.sDrop, DL.sRetN, DL.eVar_lst, DL.frz_lst, DL.fMax_m, DL.fMin_m, DL.fIsNot_i, DL.fIsNot_n, DL.fIs_i, DL.fIs_n, DL.fInt_b, DL.fAbs_i, DL.kF1, DL.kF2, DL.kF3, eBody, fXv, i, e, n, fExIs, f, c, n2]
end DL

set_option maxHeartbeats 1000000
namespace DL
open PySem L2
/-! K80c: k80: the loops, the law. -/
theorem forL_nx {g : Tg} {b : M Fl} {d : D} {l : List D} {ρ ρ1 ρ2 : List Slot} (h1 : g d ρ = some ρ1) (h2 : b ρ1 = .ok .nx ρ2) : forL g b (d :: l) ρ = forL g b l ρ2 := by
  show (match g d ρ with
    | none => Res.bad
    | some ρ1 => (b ρ1).bind fun fl ρ2 => match fl with
      | .nx => forL g b l ρ2
      | .ct => forL g b l ρ2
      | .bk => .ok .nx ρ2
      | .rt s => .ok (.rt s) ρ2) = _
  rw [h1]
  show (b ρ1).bind _ = _
  rw [h2]; rfl
theorem gN_St {i : Nat} {d : D} {ρ : List Slot} {s0 : Slot} (h : ρ[i]? = some s0) (hs : St s0) : gN i d ρ = some (ρ.set i (.frz d)) := setS_St h hs
noncomputable abbrev pBody : M Fl := (sFor (gN 6) (iAny (e2 fIx (eVar 4) (eVar 5))) eBody)
theorem made_at (d : D) (p : Nat) (hp : p < 13) : L2.atI (madeL d) (p : Int) = some (.tup [.exn (11 + p) d, .exn (11 + p) d]) := by
  rw [atI_nat']
  unfold madeL
  rw [List.getElem?_map, List.getElem?_range hp]; rfl
theorem pbody_ok (s0 s1 s2 : Slot) {d : D} (hd : Th d) (p : Nat) (hp : p < 13) (z6 : Slot) (h6 : St z6) : ∃ y6, St y6 ∧ pBody [s0, s1, s2, .frz d, .frz (.lst (madeL d)), .frz (.int p), z6, .no] = .ok .nx [s0, s1, s2, .frz d, .frz (.lst (madeL d)), .frz (.int p), y6, .no] := by
  have b := ebody_ok s0 s1 s2 (.frz (.lst (madeL d))) hd p hp
  refine ⟨.frz (.exn (11 + p) d), .frz _, ?_⟩
  have m := made_at d p hp
  have e : iAny (e2 fIx (eVar 4) (eVar 5)) [s0, s1, s2, .frz d, .frz (.lst (madeL d)), .frz (.int p), z6, .no] = .ok [.exn (11 + p) d, .exn (11 + p) d] [s0, s1, s2, .frz d, .frz (.lst (madeL d)), .frz (.int p), z6, .no] := by
    unfold iAny
    simp [-DL.fMax_ii, -DL.fMin_ii, DL.sSeq_def, DL.sAsg, DL.sSet, DL.sRet, DL.sIf, DL.gT, DL.gCn, DL.gN, DL.gNl, DL.eVar_frz, DL.eC, DL.e1, DL.e2, DL.eCh_def, DL.eTup, DL.aNil, DL.aCons, DL.opt_eq, DL.xD, DL.fz, DL.bE_def, DL.eAnd_def, DL.eOr_def, DL.eB, DL.eIf, DL.setS_no, DL.setS_frz, DL.setS_own, DL.outs, DL.optS, DL.xC, DL.rD, DL.rNil, DL.LINE, DL.sNx, DL.bAnd, DL.bOr, DL.bNot, DL.sBk, DL.sCt, DL.sDrop, DL.sRetN, DL.eVar_lst, DL.frz_lst, DL.fMax_m, DL.fMin_m, DL.fIsNot_i, DL.fIsNot_n, DL.fIs_i, DL.fIs_n, DL.fInt_b, DL.fAbs_i, DL.kF1, DL.kF2, DL.kF3, m]
  unfold pBody sFor
  rw [e, Res.bind_ok]
  have g1 : gN 6 (.exn (11 + p) d) [s0, s1, s2, .frz d, .frz (.lst (madeL d)), .frz (.int p), z6, .no] = some [s0, s1, s2, .frz d, .frz (.lst (madeL d)), .frz (.int p), .frz (.exn (11 + p) d), .no] := gN_St (s0 := z6) rfl h6
  have g2 : gN 6 (.exn (11 + p) d) [s0, s1, s2, .frz d, .frz (.lst (madeL d)), .frz (.int p), .frz (.exn (11 + p) d), .no] = some [s0, s1, s2, .frz d, .frz (.lst (madeL d)), .frz (.int p), .frz (.exn (11 + p) d), .no] := gN_St (s0 := .frz (.exn (11 + p) d)) rfl (.frz _)
  rw [forL_nx g1 b, forL_nx g2 b]
  rfl
theorem ploop_ok (s0 s1 s2 : Slot) {d : D} (hd : Th d) : ∀ (l : List Int) (z5 z6 : Slot), (∀ i ∈ l, ∃ p : Nat, i = p ∧ p < 13) → St z5 → St z6 →
    ∃ y5 y6, St y5 ∧ St y6 ∧ forL (gN 5) pBody (l.map D.int) [s0, s1, s2, .frz d, .frz (.lst (madeL d)), z5, z6, .no] = .ok .nx [s0, s1, s2, .frz d, .frz (.lst (madeL d)), y5, y6, .no]
  | [], z5, z6, _, h5, h6 => ⟨z5, z6, h5, h6, rfl⟩
  | i :: l, z5, z6, hl, h5, h6 => by
    obtain ⟨p, rfl, hp⟩ := hl i List.mem_cons_self
    obtain ⟨y6, k6, e⟩ := pbody_ok s0 s1 s2 hd p hp z6 h6
    obtain ⟨w5, w6, q5, q6, e2⟩ := ploop_ok s0 s1 s2 hd l (.frz (.int p)) y6 (fun i hi => hl i (List.mem_cons_of_mem _ hi)) (.frz _) k6
    refine ⟨w5, w6, q5, q6, ?_⟩
    have g1 : gN 5 (.int p) [s0, s1, s2, .frz d, .frz (.lst (madeL d)), z5, z6, .no] = some [s0, s1, s2, .frz d, .frz (.lst (madeL d)), .frz (.int p), z6, .no] := gN_St (s0 := z5) rfl h5
    rw [← e2, List.map_cons, forL_nx g1 e]
theorem fPow20 : fPow (.int 10) (.int 20) = some (.int 100000000000000000000) := by
  rw [show (20 : Int) = ((20 : Nat) : Int) from rfl, fPow_i (md_c (by decide) (by decide)) (by decide)]; rfl
noncomputable abbrev tThing : M Slot := (xD (e2 fIx (eTup (aCons (eC .non) (aCons (eTup (aCons (eC (.int 0)) (aCons (eC (.int 1)) (aCons (eC (.int 2)) (aCons (eC (.int 3)) (aNil)))))) (aCons (eC (.str "text")) (aCons (fz (xC F_law_draw [] (rIo 1 (rD (e2 fPow (eC (.int 10)) (eC (.int 20))) (rNil))))) (aCons (eTup (aCons (eC (.int 0)) (aCons (eC (.int 2)) (aNil)))) (aCons (e1 fNeg (eC (.int 1))) (aNil)))))))) (fz (xC F_law_draw [] (rIo 1 (rD (eC (.int 6)) (rNil)))))))
theorem thing_ok (sc : Slot) (rest : List Slot) {B : Bg} {n : Nat} (h : B.Ok n) (hn : n ≤ 800000) : ∃ (d : D) (B' : Bg), tThing (sc :: .own B.o :: rest) = .ok (.frz d) (sc :: .own B'.o :: rest) ∧ Th d ∧ B'.Ok (n + 2) := by
  obtain ⟨i, B1, _, c1, p1, q1, h1⟩ := draw_ok h (by omega) (m := 100000000000000000000) (by decide) (Md.up (n := 70) (md_of ⟨by decide, by decide⟩) (by decide))
  obtain ⟨b, B2, _, c2, p2, q2, h2⟩ := draw_c h1 (by omega) 6 (by decide) (by decide)
  have c2' : ∀ s rest, callF F_law_draw [.io 1, .d (.int 6)] (s :: .own B1.o :: rest) = .ok (.frz (.int b)) (s :: .own B2.o :: rest) := c2
  have q2' : b < 6 := q2
  have hb : b = 0 ∨ b = 1 ∨ b = 2 ∨ b = 3 ∨ b = 4 ∨ b = 5 := by omega
  have key : tThing (sc :: .own B.o :: rest) = (match fIx (.tup [.non, .tup [.int 0, .int 1, .int 2, .int 3], .str "text", .int i, .tup [.int 0, .int 2], .int (-1)]) (.int b) with | some d => .ok (.frz d) (sc :: .own B2.o :: rest) | none => .bad) := by
    simp [-DL.fMax_ii, -DL.fMin_ii, DL.sSeq_def, DL.sAsg, DL.sSet, DL.sRet, DL.sIf, DL.gT, DL.gCn, DL.gN, DL.gNl, DL.eVar_frz, DL.eC, DL.e1, DL.e2, DL.eCh_def, DL.eTup, DL.aNil, DL.aCons, DL.opt_eq, DL.xD, DL.fz, DL.bE_def, DL.eAnd_def, DL.eOr_def, DL.eB, DL.eIf, DL.setS_no, DL.setS_frz, DL.setS_own, DL.outs, DL.optS, DL.xC, DL.rD, DL.rNil, DL.LINE, DL.sNx, DL.bAnd, DL.bOr, DL.bNot, DL.sBk, DL.sCt, DL.sDrop, DL.sRetN, DL.eVar_lst, DL.frz_lst, DL.fMax_m, DL.fMin_m, DL.fIsNot_i, DL.fIsNot_n, DL.fIs_i, DL.fIs_n, DL.fInt_b, DL.fAbs_i, DL.kF1, DL.kF2, DL.kF3, tThing, rIo, c1, c2', fPow20]
    cases L2.atI [D.non, .tup [.int 0, .int 1, .int 2, .int 3], .str "text", .int i, .tup [.int 0, .int 2], .int (-1)] b <;> simp [-DL.fMax_ii, -DL.fMin_ii, DL.sSeq_def, DL.sAsg, DL.sSet, DL.sRet, DL.sIf, DL.gT, DL.gCn, DL.gN, DL.gNl, DL.eVar_frz, DL.eC, DL.e1, DL.e2, DL.eCh_def, DL.eTup, DL.aNil, DL.aCons, DL.opt_eq, DL.xD, DL.fz, DL.bE_def, DL.eAnd_def, DL.eOr_def, DL.eB, DL.eIf, DL.setS_no, DL.setS_frz, DL.setS_own, DL.outs, DL.optS, DL.xC, DL.rD, DL.rNil, DL.LINE, DL.sNx, DL.bAnd, DL.bOr, DL.bNot, DL.sBk, DL.sCt, DL.sDrop, DL.sRetN, DL.eVar_lst, DL.frz_lst, DL.fMax_m, DL.fMin_m, DL.fIsNot_i, DL.fIsNot_n, DL.fIs_i, DL.fIs_n, DL.fInt_b, DL.fAbs_i, DL.kF1, DL.kF2, DL.kF3, opt]
  rw [key]
  rcases hb with rfl | rfl | rfl | rfl | rfl | rfl
  · exact ⟨_, B2, rfl, th_non, h2⟩
  · exact ⟨_, B2, rfl, th_t4, h2⟩
  · exact ⟨_, B2, rfl, th_str, h2⟩
  · have hb : (100000000000000000000 : Int) < 10 ^ 100 := by decide
    exact ⟨_, B2, rfl, th_int ⟨p1, by omega⟩, h2⟩
  · exact ⟨_, B2, rfl, th_t2, h2⟩
  · exact ⟨_, B2, rfl, th_neg, h2⟩
noncomputable abbrev tBody : M Fl := (sSeq (sSet 3 tThing) (sSeq (sSet 4 (xD (fz (xC F_law_made [] (rD (eVar 3) (rNil)))))) (sSeq (sFor (gN 5) (iR1 (aCons (eC (.int 13)) (aNil))) pBody) (sIf (bOr (bE (e2 fNe (eB fRepr (aCons (e1 (fXv ecs) (eMkE 10 (aCons (eVar 3) (aNil)))) (aNil))) (eB fRepr (aCons (eVar 3) (aNil))))) (bE (e2 fNe (eB fRepr (aCons (e1 (fXv ecs) (eMkEK 10 (eVar 3))) (aNil))) (eB fRepr (aCons (eVar 3) (aNil)))))) (sRet (xD (eC (.bl false)))) (sNx)))))
theorem tbody_ok (sc s2 : Slot) {B : Bg} {n : Nat} (h : B.Ok n) (hn : n ≤ 800000) (z3 z4 z5 z6 : Slot) (h3 : St z3) (h4 : St z4) (h5 : St z5) (h6 : St z6) :
    ∃ (B' : Bg) (y3 y4 y5 y6 : Slot), tBody [sc, .own B.o, s2, z3, z4, z5, z6, .no] = .ok .nx [sc, .own B'.o, s2, y3, y4, y5, y6, .no] ∧ B'.Ok (n + 2) ∧ St y3 ∧ St y4 ∧ St y5 ∧ St y6 := by
  obtain ⟨d, B1, e1, hd, k1⟩ := thing_ok sc [s2, z3, z4, z5, z6, .no] h hn
  obtain ⟨y5, y6, q5, q6, e2⟩ := ploop_ok sc (.own B1.o) s2 hd ((List.range 13).map fun i : Nat => (i : Int)) z5 z6 (fun i hi => by
    obtain ⟨p, hp, rfl⟩ := List.mem_map.mp hi
    exact ⟨p, rfl, List.mem_range.mp hp⟩) h5 h6
  have m := made_ok d
  obtain ⟨T, f1, f2⟩ := hd.ne
  refine ⟨B1, .frz d, .frz (.lst (madeL d)), y5, y6, ?_, k1, .frz _, .frz _, q5, q6⟩
  have s1 : (sSet 3 tThing) [sc, .own B.o, s2, z3, z4, z5, z6, .no] = .ok .nx [sc, .own B1.o, s2, .frz d, z4, z5, z6, .no] := by
    simp only [sSet, e1, Res.bind_ok]
    rw [setS_St (s0 := z3) rfl h3]; rfl
  have r1 : iR1 (aCons (eC (.int 13)) (aNil)) [sc, .own B1.o, s2, .frz d, .frz (.lst (madeL d)), z5, z6, .no] = .ok (((List.range 13).map fun i : Nat => (i : Int)).map D.int) [sc, .own B1.o, s2, .frz d, .frz (.lst (madeL d)), z5, z6, .no] := iR1_q (n := 13) (by simp [-DL.fMax_ii, -DL.fMin_ii, DL.sSeq_def, DL.sAsg, DL.sSet, DL.sRet, DL.sIf, DL.gT, DL.gCn, DL.gN, DL.gNl, DL.eVar_frz, DL.eC, DL.e1, DL.e2, DL.eCh_def, DL.eTup, DL.aNil, DL.aCons, DL.opt_eq, DL.xD, DL.fz, DL.bE_def, DL.eAnd_def, DL.eOr_def, DL.eB, DL.eIf, DL.setS_no, DL.setS_frz, DL.setS_own, DL.outs, DL.optS, DL.xC, DL.rD, DL.rNil, DL.LINE, DL.sNx, DL.bAnd, DL.bOr, DL.bNot, DL.sBk, DL.sCt, DL.sDrop, DL.sRetN, DL.eVar_lst, DL.frz_lst, DL.fMax_m, DL.fMin_m, DL.fIsNot_i, DL.fIsNot_n, DL.fIs_i, DL.fIs_n, DL.fInt_b, DL.fAbs_i, DL.kF1, DL.kF2, DL.kF3]) (by decide)
  have s3 : (sFor (gN 5) (iR1 (aCons (eC (.int 13)) (aNil))) pBody) [sc, .own B1.o, s2, .frz d, .frz (.lst (madeL d)), z5, z6, .no] = .ok .nx [sc, .own B1.o, s2, .frz d, .frz (.lst (madeL d)), y5, y6, .no] := by
    unfold sFor
    rw [r1, Res.bind_ok, e2]
  have s2' : (sSet 4 (xD (fz (xC F_law_made [] (rD (eVar 3) (rNil)))))) [sc, .own B1.o, s2, .frz d, z4, z5, z6, .no] = .ok .nx [sc, .own B1.o, s2, .frz d, .frz (.lst (madeL d)), z5, z6, .no] := by
    simp [-DL.fMax_ii, -DL.fMin_ii, DL.sSeq_def, DL.sAsg, DL.sSet, DL.sRet, DL.sIf, DL.gT, DL.gCn, DL.gN, DL.gNl, DL.eVar_frz, DL.eC, DL.e1, DL.e2, DL.eCh_def, DL.eTup, DL.aNil, DL.aCons, DL.opt_eq, DL.xD, DL.fz, DL.bE_def, DL.eAnd_def, DL.eOr_def, DL.eB, DL.eIf, DL.setS_no, DL.setS_frz, DL.setS_own, DL.outs, DL.optS, DL.xC, DL.rD, DL.rNil, DL.LINE, DL.sNx, DL.bAnd, DL.bOr, DL.bNot, DL.sBk, DL.sCt, DL.sDrop, DL.sRetN, DL.eVar_lst, DL.frz_lst, DL.fMax_m, DL.fMin_m, DL.fIsNot_i, DL.fIsNot_n, DL.fIs_i, DL.fIs_n, DL.fInt_b, DL.fAbs_i, DL.kF1, DL.kF2, DL.kF3, m, setS_St _ h4]
  have e10 : 10 ∈ ecs := by decide
  unfold tBody
  simp only [sSeq_def, s1, s2', s3, Res.bind_ok, flK_nx]
  simp [-DL.fMax_ii, -DL.fMin_ii, DL.sSeq_def, DL.sAsg, DL.sSet, DL.sRet, DL.sIf, DL.gT, DL.gCn, DL.gN, DL.gNl, DL.eVar_frz, DL.eC, DL.e1, DL.e2, DL.eCh_def, DL.eTup, DL.aNil, DL.aCons, DL.opt_eq, DL.xD, DL.fz, DL.bE_def, DL.eAnd_def, DL.eOr_def, DL.eB, DL.eIf, DL.setS_no, DL.setS_frz, DL.setS_own, DL.outs, DL.optS, DL.xC, DL.rD, DL.rNil, DL.LINE, DL.sNx, DL.bAnd, DL.bOr, DL.bNot, DL.sBk, DL.sCt, DL.sDrop, DL.sRetN, DL.eVar_lst, DL.frz_lst, DL.fMax_m, DL.fMin_m, DL.fIsNot_i, DL.fIsNot_n, DL.fIs_i, DL.fIs_n, DL.fInt_b, DL.fAbs_i, DL.kF1, DL.kF2, DL.kF3, eMkE, eMkEK, fXv, e10, f1, f2]
theorem touter_ok (sc : Slot) : ∀ (l : List Int) {B : Bg} {n : Nat} (z2 z3 z4 z5 z6 : Slot), B.Ok n → n + 2 * l.length ≤ 600000 → St z2 → St z3 → St z4 → St z5 → St z6 →
    ∃ (B' : Bg) (y2 y3 y4 y5 y6 : Slot), forL (gN 2) tBody (l.map D.int) [sc, .own B.o, z2, z3, z4, z5, z6, .no] = .ok .nx [sc, .own B'.o, y2, y3, y4, y5, y6, .no]
  | [], B, n, z2, z3, z4, z5, z6, _, _, _, _, _, _, _ => ⟨B, z2, z3, z4, z5, z6, rfl⟩
  | i :: l, B, n, z2, z3, z4, z5, z6, h, hn, h2, h3, h4, h5, h6 => by
    obtain ⟨B1, y3, y4, y5, y6, e, k, q3, q4, q5, q6⟩ := tbody_ok sc (.frz (.int i)) h (by omega) z3 z4 z5 z6 h3 h4 h5 h6
    obtain ⟨B', x2, x3, x4, x5, x6, e2⟩ := touter_ok sc l (.frz (.int i)) y3 y4 y5 y6 k (by simp [-DL.fMax_ii, -DL.fMin_ii, DL.sSeq_def, DL.sAsg, DL.sSet, DL.sRet, DL.sIf, DL.gT, DL.gCn, DL.gN, DL.gNl, DL.eVar_frz, DL.eC, DL.e1, DL.e2, DL.eCh_def, DL.eTup, DL.aNil, DL.aCons, DL.opt_eq, DL.xD, DL.fz, DL.bE_def, DL.eAnd_def, DL.eOr_def, DL.eB, DL.eIf, DL.setS_no, DL.setS_frz, DL.setS_own, DL.outs, DL.optS, DL.xC, DL.rD, DL.rNil, DL.LINE, DL.sNx, DL.bAnd, DL.bOr, DL.bNot, DL.sBk, DL.sCt, DL.sDrop, DL.sRetN, DL.eVar_lst, DL.frz_lst, DL.fMax_m, DL.fMin_m, DL.fIsNot_i, DL.fIsNot_n, DL.fIs_i, DL.fIs_n, DL.fInt_b, DL.fAbs_i, DL.kF1, DL.kF2, DL.kF3] at hn ⊢; omega) (.frz _) q3 q4 q5 q6
    refine ⟨B', x2, x3, x4, x5, x6, ?_⟩
    have g1 : gN 2 (.int i) [sc, .own B.o, z2, z3, z4, z5, z6, .no] = some [sc, .own B.o, .frz (.int i), z3, z4, z5, z6, .no] := gN_St (s0 := z2) rfl h2
    rw [← e2, List.map_cons, forL_nx g1 e]
theorem law_ok (ns : List Int) (h : ns.length ≤ 63) : F_law [.frz (.scr ns)] = .ok (.frz (.bl true)) [] := by
  obtain ⟨B, e, k⟩ := law_bag_ok ns h
  obtain ⟨B', y2, y3, y4, y5, y6, ee⟩ := touter_ok (.frz (.scr ns)) ((List.range (4 + min 8 ns.length)).map fun i : Nat => (i : Int)) .no .no .no .no .no k (by simp [-DL.fMax_ii, -DL.fMin_ii, DL.sSeq_def, DL.sAsg, DL.sSet, DL.sRet, DL.sIf, DL.gT, DL.gCn, DL.gN, DL.gNl, DL.eVar_frz, DL.eC, DL.e1, DL.e2, DL.eCh_def, DL.eTup, DL.aNil, DL.aCons, DL.opt_eq, DL.xD, DL.fz, DL.bE_def, DL.eAnd_def, DL.eOr_def, DL.eB, DL.eIf, DL.setS_no, DL.setS_frz, DL.setS_own, DL.outs, DL.optS, DL.xC, DL.rD, DL.rNil, DL.LINE, DL.sNx, DL.bAnd, DL.bOr, DL.bNot, DL.sBk, DL.sCt, DL.sDrop, DL.sRetN, DL.eVar_lst, DL.frz_lst, DL.fMax_m, DL.fMin_m, DL.fIsNot_i, DL.fIsNot_n, DL.fIs_i, DL.fIs_n, DL.fInt_b, DL.fAbs_i, DL.kF1, DL.kF2, DL.kF3]; omega) .no .no .no .no .no
  unfold F_law
  rw [mfn_run [.frz (.scr ns), .no, .no, .no, .no, .no, .no, .no]]
  unfold m_law
  have r : iR1 (aCons (e2 fAdd (eC (.int 4)) (eB fMin (aCons (eC (.int 8)) (aCons (eB fLen (aCons (eVar 0) (aNil))) (aNil))))) (aNil)) [.frz (.scr ns), .own B.o, .no, .no, .no, .no, .no, .no] = .ok (((List.range (4 + min 8 ns.length)).map fun i : Nat => (i : Int)).map D.int) [.frz (.scr ns), .own B.o, .no, .no, .no, .no, .no, .no] := iR1_q (n := 4 + min 8 ns.length) (by
    have : fLen [.scr ns] = some (.int ns.length) := rfl
    simp [-DL.fMax_ii, -DL.fMin_ii, DL.sSeq_def, DL.sAsg, DL.sSet, DL.sRet, DL.sIf, DL.gT, DL.gCn, DL.gN, DL.gNl, DL.eVar_frz, DL.eC, DL.e1, DL.e2, DL.eCh_def, DL.eTup, DL.aNil, DL.aCons, DL.opt_eq, DL.xD, DL.fz, DL.bE_def, DL.eAnd_def, DL.eOr_def, DL.eB, DL.eIf, DL.setS_no, DL.setS_frz, DL.setS_own, DL.outs, DL.optS, DL.xC, DL.rD, DL.rNil, DL.LINE, DL.sNx, DL.bAnd, DL.bOr, DL.bNot, DL.sBk, DL.sCt, DL.sDrop, DL.sRetN, DL.eVar_lst, DL.frz_lst, DL.fMax_m, DL.fMin_m, DL.fIsNot_i, DL.fIsNot_n, DL.fIs_i, DL.fIs_n, DL.fInt_b, DL.fAbs_i, DL.kF1, DL.kF2, DL.kF3, this]; omega) (by omega)
  have s1 : (sSet 1 (xC F_law_bag [] (rD (eVar 0) (rNil)))) [.frz (.scr ns), .no, .no, .no, .no, .no, .no, .no] = .ok .nx [.frz (.scr ns), .own B.o, .no, .no, .no, .no, .no, .no] := by
    simp [-DL.fMax_ii, -DL.fMin_ii, DL.sSeq_def, DL.sAsg, DL.sSet, DL.sRet, DL.sIf, DL.gT, DL.gCn, DL.gN, DL.gNl, DL.eVar_frz, DL.eC, DL.e1, DL.e2, DL.eCh_def, DL.eTup, DL.aNil, DL.aCons, DL.opt_eq, DL.xD, DL.fz, DL.bE_def, DL.eAnd_def, DL.eOr_def, DL.eB, DL.eIf, DL.setS_no, DL.setS_frz, DL.setS_own, DL.outs, DL.optS, DL.xC, DL.rD, DL.rNil, DL.LINE, DL.sNx, DL.bAnd, DL.bOr, DL.bNot, DL.sBk, DL.sCt, DL.sDrop, DL.sRetN, DL.eVar_lst, DL.frz_lst, DL.fMax_m, DL.fMin_m, DL.fIsNot_i, DL.fIsNot_n, DL.fIs_i, DL.fIs_n, DL.fInt_b, DL.fAbs_i, DL.kF1, DL.kF2, DL.kF3, e]
  simp only [sSeq_def, s1, Res.bind_ok, flK_nx, sFor, r]
  change endF _ (((forL (gN 2) tBody _ _)).bind _) = _
  rw [ee]
  have fl := flags_ok (c := 10) (.str "a") (by decide)
  have q := fEq_bls (flagsL 10)
  have mm : fMul (.lst [.bl false]) (.int 13) = some (.lst ((flagsL 10).map .bl)) := by
    unfold fMul
    exact if_pos (by decide)
  simp [-DL.fMax_ii, -DL.fMin_ii, DL.sSeq_def, DL.sAsg, DL.sSet, DL.sRet, DL.sIf, DL.gT, DL.gCn, DL.gN, DL.gNl, DL.eVar_frz, DL.eC, DL.e1, DL.e2, DL.eCh_def, DL.eTup, DL.aNil, DL.aCons, DL.opt_eq, DL.xD, DL.fz, DL.bE_def, DL.eAnd_def, DL.eOr_def, DL.eB, DL.eIf, DL.setS_no, DL.setS_frz, DL.setS_own, DL.outs, DL.optS, DL.xC, DL.rD, DL.rNil, DL.LINE, DL.sNx, DL.bAnd, DL.bOr, DL.bNot, DL.sBk, DL.sCt, DL.sDrop, DL.sRetN, DL.eVar_lst, DL.frz_lst, DL.fMax_m, DL.fMin_m, DL.fIsNot_i, DL.fIsNot_n, DL.fIs_i, DL.fIs_n, DL.fInt_b, DL.fAbs_i, DL.kF1, DL.kF2, DL.kF3, eMkE, fl, mm, xLst, q]
end DL

set_option maxHeartbeats 4000000
namespace DL
open PySem L2 He PyProof.Rows
def adK (K : Fg) : AdrT := ⟨fun n => match n with | 15 => ga K "InvalidAccess" | 17 => ga K "InvalidArray" | 14 => ga K "InvalidBarrier" | 11 => ga K "InvalidGuard" | 12 => ga K "InvalidLanes" | 16 => ga K "InvalidNumber" | 18 => ga K "InvalidSchedule" | 13 => ga K "InvalidStatement" | 21 => ga K "NotPlain" | 22 => ga K "NothingToUndo" | 20 => ga K "Racing" | 10 => ga K "StrideError" | 19 => ga K "UnlikeLanes" | 23 => ga K "Unreadable" | _ => 0, []⟩
abbrev s_exc : Stmt := inClass (topS 1) 0
def lawFn_0 : List DefY := [
  ⟨fun K => ga K "_law_bag", "_law_bag", "_law_bag", s_law_bag, [], false⟩,
  ⟨fun K => ga K "_law_draw", "_law_draw", "_law_draw", s_law_draw, [], false⟩,
  ⟨fun K => ga K "_law_made", "_law_made", "_law_made", s_law_made, [], false⟩,
  ⟨fun K => ga K "_law_flags", "_law_flags", "_law_flags", s_law_flags, [], false⟩,
  ⟨fun K => ga K "law", "law", "law", s_law, [], false⟩,
  ⟨fun K => ma K (ga K "StrideError") "__init__", "__init__", "StrideError.__init__", s_exc, [], true⟩]
def lawFn : List DefY := lawFn_0
def lawTs : List He.Tab := []
abbrev PRG : Program := (PySem.Challenge.rw_stridelanes_k80_errors_made).prog
theorem exc_bind : ∀ fd : FuncData, fd.params = defArgs s_exc → fd.defaults = .none → BindE fd := fun fd h1 h2 => by
  obtain ⟨n1, n2, n3, n4, n5, n6, n7, n8, n9, n10, n11, n12, n13, n14, n15⟩ := fd
  dsimp only at h1 h2
  subst h1 h2
  exact ⟨fun us hl => match us, hl with | [_, _], _ => rfl, fun _ _ => rfl⟩
theorem exc_supT : SupT s_exc := ⟨NdefX.nscope_by (by decide +kernel), rfl, rfl, _, _, _, _, _, _, _, _, _, _, rfl, fun q L f cda cc => ⟨_, rfl⟩⟩
def lawEx_0 : List (Fg → Bool) := [
  famB (.glo "_law_bag"),
  famB (.keep "_law_bag"),
  famB (.glo "_law_draw"),
  famB (.keep "_law_draw"),
  famB (.glo "_law_made"),
  famB (.keep "_law_made"),
  famB (.glo "_law_flags"),
  famB (.keep "_law_flags"),
  famB (.glo "law"),
  famB (.keep "law"),
  initB "StrideError" PRG.main.file,
  famB (.free "super"),
  famB (.glo "InvalidAccess"),
  famB (.glo "InvalidArray"),
  famB (.glo "InvalidBarrier"),
  famB (.glo "InvalidGuard"),
  famB (.glo "InvalidLanes"),
  famB (.glo "InvalidNumber"),
  famB (.glo "InvalidSchedule"),
  famB (.glo "InvalidStatement"),
  famB (.glo "NotPlain"),
  famB (.glo "NothingToUndo"),
  famB (.glo "Racing"),
  famB (.glo "StrideError"),
  famB (.glo "UnlikeLanes"),
  famB (.glo "Unreadable"),
  supB "StrideError" "InvalidAccess",
  fndB "InvalidAccess" "__init__" (fun K => .ref (ma K (ga K "StrideError") "__init__")),
  supB "StrideError" "InvalidArray",
  fndB "InvalidArray" "__init__" (fun K => .ref (ma K (ga K "StrideError") "__init__"))]
def lawEx_1 : List (Fg → Bool) := [
  supB "StrideError" "InvalidBarrier",
  fndB "InvalidBarrier" "__init__" (fun K => .ref (ma K (ga K "StrideError") "__init__")),
  supB "StrideError" "InvalidGuard",
  fndB "InvalidGuard" "__init__" (fun K => .ref (ma K (ga K "StrideError") "__init__")),
  supB "StrideError" "InvalidLanes",
  fndB "InvalidLanes" "__init__" (fun K => .ref (ma K (ga K "StrideError") "__init__")),
  supB "StrideError" "InvalidNumber",
  fndB "InvalidNumber" "__init__" (fun K => .ref (ma K (ga K "StrideError") "__init__")),
  supB "StrideError" "InvalidSchedule",
  fndB "InvalidSchedule" "__init__" (fun K => .ref (ma K (ga K "StrideError") "__init__")),
  supB "StrideError" "InvalidStatement",
  fndB "InvalidStatement" "__init__" (fun K => .ref (ma K (ga K "StrideError") "__init__")),
  supB "StrideError" "NotPlain",
  fndB "NotPlain" "__init__" (fun K => .ref (ma K (ga K "StrideError") "__init__")),
  supB "StrideError" "NothingToUndo",
  fndB "NothingToUndo" "__init__" (fun K => .ref (ma K (ga K "StrideError") "__init__")),
  supB "StrideError" "Racing",
  fndB "Racing" "__init__" (fun K => .ref (ma K (ga K "StrideError") "__init__")),
  supB "StrideError" "StrideError",
  fndB "StrideError" "__init__" (fun K => .ref (ma K (ga K "StrideError") "__init__")),
  supB "StrideError" "UnlikeLanes",
  fndB "UnlikeLanes" "__init__" (fun K => .ref (ma K (ga K "StrideError") "__init__")),
  supB "StrideError" "Unreadable",
  fndB "Unreadable" "__init__" (fun K => .ref (ma K (ga K "StrideError") "__init__")),
  kieG adK ecs (fun K => .ref (adK K 15)) (fun c => decide (c = 15)),
  kieG adK ecs (fun K => .ref (adK K 17)) (fun c => decide (c = 17)),
  kieG adK ecs (fun K => .ref (adK K 14)) (fun c => decide (c = 14)),
  kieG adK ecs (fun K => .ref (adK K 11)) (fun c => decide (c = 11)),
  kieG adK ecs (fun K => .ref (adK K 12)) (fun c => decide (c = 12)),
  kieG adK ecs (fun K => .ref (adK K 16)) (fun c => decide (c = 16))]
def lawEx_2 : List (Fg → Bool) := [
  kieG adK ecs (fun K => .ref (adK K 18)) (fun c => decide (c = 18)),
  kieG adK ecs (fun K => .ref (adK K 13)) (fun c => decide (c = 13)),
  kieG adK ecs (fun K => .ref (adK K 21)) (fun c => decide (c = 21)),
  kieG adK ecs (fun K => .ref (adK K 22)) (fun c => decide (c = 22)),
  kieG adK ecs (fun K => .ref (adK K 20)) (fun c => decide (c = 20)),
  kieG adK ecs (fun K => .ref (adK K 10)) (fun _ => true),
  kieG adK ecs (fun K => .ref (adK K 19)) (fun c => decide (c = 19)),
  kieG adK ecs (fun K => .ref (adK K 23)) (fun c => decide (c = 23)),
  kieG adK ecs (fun _ => .type "ValueError") (fun _ => true),
  famB (.free "ValueError"),
  excB "InvalidAccess",
  excB "InvalidArray",
  excB "InvalidBarrier",
  excB "InvalidGuard",
  excB "InvalidLanes",
  excB "InvalidNumber",
  excB "InvalidSchedule",
  excB "InvalidStatement",
  excB "NotPlain",
  excB "NothingToUndo",
  excB "Racing",
  excB "StrideError",
  excB "UnlikeLanes",
  excB "Unreadable",
  famB (.free "abs"),
  famB (.free "isinstance"),
  famB (.free "len"),
  famB (.free "min"),
  famB (.free "range"),
  famB (.free "repr")]
def lawEx : List (Fg → Bool) := lawEx_0 ++ lawEx_1 ++ lawEx_2
def adA (K : Fg) : Ad := ⟨ga K "_law_bag", ga K "_law_draw", ga K "_law_made", ga K "_law_flags", ga K "law", ga K "StrideError", ma K (ga K "StrideError") "__init__"⟩
theorem tx_of {w : World} {K : Fg} {h base : Heap} {mg : Str → Option Value} (X : K.In h) (G : h.Ns mainGlobals mg) (c : SaysY lawFn lawTs lawEx w K) : Tx PRG w K mg base (adK K) (adA K) where
  f_law_bag := DefY.fun_ (c.def_ 0 rfl).1 (c.def_ 0 rfl).2 rfl
  g__law_bag := He.glo_ok X G (x := "_law_bag") (c.fact 0 rfl)
  k_law_bag := He.keep_ok (x := "_law_bag") (c.fact 1 rfl)
  f_law_draw := DefY.fun_ (c.def_ 1 rfl).1 (c.def_ 1 rfl).2 rfl
  g__law_draw := He.glo_ok X G (x := "_law_draw") (c.fact 2 rfl)
  k_law_draw := He.keep_ok (x := "_law_draw") (c.fact 3 rfl)
  f_law_made := DefY.fun_ (c.def_ 2 rfl).1 (c.def_ 2 rfl).2 rfl
  g__law_made := He.glo_ok X G (x := "_law_made") (c.fact 4 rfl)
  k_law_made := He.keep_ok (x := "_law_made") (c.fact 5 rfl)
  f_law_flags := DefY.fun_ (c.def_ 3 rfl).1 (c.def_ 3 rfl).2 rfl
  g__law_flags := He.glo_ok X G (x := "_law_flags") (c.fact 6 rfl)
  k_law_flags := He.keep_ok (x := "_law_flags") (c.fact 7 rfl)
  f_law := DefY.fun_ (c.def_ 4 rfl).1 (c.def_ 4 rfl).2 rfl
  g_law := He.glo_ok X G (x := "law") (c.fact 8 rfl)
  k_law := He.keep_ok (x := "law") (c.fact 9 rfl)
  cs := fun k hk => by simp [tys] at hk
  xF := by
    obtain ⟨cc, cda, fd, SF, ty, hb⟩ := initB_ok (P := PRG) (mg := mg) (d := "StrideError") (file := PRG.main.file) (c.def_ 5 rfl).1 rfl rfl (c.fact 10 rfl) rfl (He.free_ok X G (x := "super") (c.fact 11 rfl)) (by kernel_rfl) (c.def_ 5 rfl).2 rfl exc_bind
    exact exF_of SF exc_supT ty hb
  g_InvalidAccess := He.glo_ok X G (x := "InvalidAccess") (c.fact 12 rfl)
  g_InvalidArray := He.glo_ok X G (x := "InvalidArray") (c.fact 13 rfl)
  g_InvalidBarrier := He.glo_ok X G (x := "InvalidBarrier") (c.fact 14 rfl)
  g_InvalidGuard := He.glo_ok X G (x := "InvalidGuard") (c.fact 15 rfl)
  g_InvalidLanes := He.glo_ok X G (x := "InvalidLanes") (c.fact 16 rfl)
  g_InvalidNumber := He.glo_ok X G (x := "InvalidNumber") (c.fact 17 rfl)
  g_InvalidSchedule := He.glo_ok X G (x := "InvalidSchedule") (c.fact 18 rfl)
  g_InvalidStatement := He.glo_ok X G (x := "InvalidStatement") (c.fact 19 rfl)
  g_NotPlain := He.glo_ok X G (x := "NotPlain") (c.fact 20 rfl)
  g_NothingToUndo := He.glo_ok X G (x := "NothingToUndo") (c.fact 21 rfl)
  g_Racing := He.glo_ok X G (x := "Racing") (c.fact 22 rfl)
  g_StrideError := He.glo_ok X G (x := "StrideError") (c.fact 23 rfl)
  g_UnlikeLanes := He.glo_ok X G (x := "UnlikeLanes") (c.fact 24 rfl)
  g_Unreadable := He.glo_ok X G (x := "Unreadable") (c.fact 25 rfl)
  x_InvalidAccess := ⟨supB_ok (d := "StrideError") (x := "InvalidAccess") (c.fact 26 rfl), He.glo_ok X G (x := "InvalidAccess") (c.fact 12 rfl), fndB_ok (c.fact 27 rfl)⟩
  x_InvalidArray := ⟨supB_ok (d := "StrideError") (x := "InvalidArray") (c.fact 28 rfl), He.glo_ok X G (x := "InvalidArray") (c.fact 13 rfl), fndB_ok (c.fact 29 rfl)⟩
  x_InvalidBarrier := ⟨supB_ok (d := "StrideError") (x := "InvalidBarrier") (c.fact 30 rfl), He.glo_ok X G (x := "InvalidBarrier") (c.fact 14 rfl), fndB_ok (c.fact 31 rfl)⟩
  x_InvalidGuard := ⟨supB_ok (d := "StrideError") (x := "InvalidGuard") (c.fact 32 rfl), He.glo_ok X G (x := "InvalidGuard") (c.fact 15 rfl), fndB_ok (c.fact 33 rfl)⟩
  x_InvalidLanes := ⟨supB_ok (d := "StrideError") (x := "InvalidLanes") (c.fact 34 rfl), He.glo_ok X G (x := "InvalidLanes") (c.fact 16 rfl), fndB_ok (c.fact 35 rfl)⟩
  x_InvalidNumber := ⟨supB_ok (d := "StrideError") (x := "InvalidNumber") (c.fact 36 rfl), He.glo_ok X G (x := "InvalidNumber") (c.fact 17 rfl), fndB_ok (c.fact 37 rfl)⟩
  x_InvalidSchedule := ⟨supB_ok (d := "StrideError") (x := "InvalidSchedule") (c.fact 38 rfl), He.glo_ok X G (x := "InvalidSchedule") (c.fact 18 rfl), fndB_ok (c.fact 39 rfl)⟩
  x_InvalidStatement := ⟨supB_ok (d := "StrideError") (x := "InvalidStatement") (c.fact 40 rfl), He.glo_ok X G (x := "InvalidStatement") (c.fact 19 rfl), fndB_ok (c.fact 41 rfl)⟩
  x_NotPlain := ⟨supB_ok (d := "StrideError") (x := "NotPlain") (c.fact 42 rfl), He.glo_ok X G (x := "NotPlain") (c.fact 20 rfl), fndB_ok (c.fact 43 rfl)⟩
  x_NothingToUndo := ⟨supB_ok (d := "StrideError") (x := "NothingToUndo") (c.fact 44 rfl), He.glo_ok X G (x := "NothingToUndo") (c.fact 21 rfl), fndB_ok (c.fact 45 rfl)⟩
  x_Racing := ⟨supB_ok (d := "StrideError") (x := "Racing") (c.fact 46 rfl), He.glo_ok X G (x := "Racing") (c.fact 22 rfl), fndB_ok (c.fact 47 rfl)⟩
  x_StrideError := ⟨supB_ok (d := "StrideError") (x := "StrideError") (c.fact 48 rfl), He.glo_ok X G (x := "StrideError") (c.fact 23 rfl), fndB_ok (c.fact 49 rfl)⟩
  x_UnlikeLanes := ⟨supB_ok (d := "StrideError") (x := "UnlikeLanes") (c.fact 50 rfl), He.glo_ok X G (x := "UnlikeLanes") (c.fact 24 rfl), fndB_ok (c.fact 51 rfl)⟩
  x_Unreadable := ⟨supB_ok (d := "StrideError") (x := "Unreadable") (c.fact 52 rfl), He.glo_ok X G (x := "Unreadable") (c.fact 25 rfl), fndB_ok (c.fact 53 rfl)⟩
  xi_InvalidAccess := kieG_ok (v := fun K => .ref (adK K 15)) (f := (fun c => decide (c = 15))) (c.fact 54 rfl)
  xi_InvalidArray := kieG_ok (v := fun K => .ref (adK K 17)) (f := (fun c => decide (c = 17))) (c.fact 55 rfl)
  xi_InvalidBarrier := kieG_ok (v := fun K => .ref (adK K 14)) (f := (fun c => decide (c = 14))) (c.fact 56 rfl)
  xi_InvalidGuard := kieG_ok (v := fun K => .ref (adK K 11)) (f := (fun c => decide (c = 11))) (c.fact 57 rfl)
  xi_InvalidLanes := kieG_ok (v := fun K => .ref (adK K 12)) (f := (fun c => decide (c = 12))) (c.fact 58 rfl)
  xi_InvalidNumber := kieG_ok (v := fun K => .ref (adK K 16)) (f := (fun c => decide (c = 16))) (c.fact 59 rfl)
  xi_InvalidSchedule := kieG_ok (v := fun K => .ref (adK K 18)) (f := (fun c => decide (c = 18))) (c.fact 60 rfl)
  xi_InvalidStatement := kieG_ok (v := fun K => .ref (adK K 13)) (f := (fun c => decide (c = 13))) (c.fact 61 rfl)
  xi_NotPlain := kieG_ok (v := fun K => .ref (adK K 21)) (f := (fun c => decide (c = 21))) (c.fact 62 rfl)
  xi_NothingToUndo := kieG_ok (v := fun K => .ref (adK K 22)) (f := (fun c => decide (c = 22))) (c.fact 63 rfl)
  xi_Racing := kieG_ok (v := fun K => .ref (adK K 20)) (f := (fun c => decide (c = 20))) (c.fact 64 rfl)
  xi_StrideError := kieG_ok (v := fun K => .ref (adK K 10)) (f := (fun _ => true)) (c.fact 65 rfl)
  xi_UnlikeLanes := kieG_ok (v := fun K => .ref (adK K 19)) (f := (fun c => decide (c = 19))) (c.fact 66 rfl)
  xi_Unreadable := kieG_ok (v := fun K => .ref (adK K 23)) (f := (fun c => decide (c = 23))) (c.fact 67 rfl)
  xi_ValueError := kieG_ok (v := fun _ => .type "ValueError") (f := (fun _ => true)) (c.fact 68 rfl)
  z_ValueError := He.free_ok X G (x := "ValueError") (c.fact 69 rfl)
  xf := fun k hk => by
    simp only [ecs, List.mem_cons, List.not_mem_nil, or_false] at hk
    rcases hk with rfl | rfl | rfl | rfl | rfl | rfl | rfl | rfl | rfl | rfl | rfl | rfl | rfl | rfl
    · exact (excB_ok (x := "InvalidAccess") (c.fact 70 rfl)).1
    · exact (excB_ok (x := "InvalidArray") (c.fact 71 rfl)).1
    · exact (excB_ok (x := "InvalidBarrier") (c.fact 72 rfl)).1
    · exact (excB_ok (x := "InvalidGuard") (c.fact 73 rfl)).1
    · exact (excB_ok (x := "InvalidLanes") (c.fact 74 rfl)).1
    · exact (excB_ok (x := "InvalidNumber") (c.fact 75 rfl)).1
    · exact (excB_ok (x := "InvalidSchedule") (c.fact 76 rfl)).1
    · exact (excB_ok (x := "InvalidStatement") (c.fact 77 rfl)).1
    · exact (excB_ok (x := "NotPlain") (c.fact 78 rfl)).1
    · exact (excB_ok (x := "NothingToUndo") (c.fact 79 rfl)).1
    · exact (excB_ok (x := "Racing") (c.fact 80 rfl)).1
    · exact (excB_ok (x := "StrideError") (c.fact 81 rfl)).1
    · exact (excB_ok (x := "UnlikeLanes") (c.fact 82 rfl)).1
    · exact (excB_ok (x := "Unreadable") (c.fact 83 rfl)).1
  xv := fun k hk => by
    simp only [ecs, List.mem_cons, List.not_mem_nil, or_false] at hk
    rcases hk with rfl | rfl | rfl | rfl | rfl | rfl | rfl | rfl | rfl | rfl | rfl | rfl | rfl | rfl
    · exact (supB_ok (d := "StrideError") (x := "InvalidAccess") (c.fact 26 rfl)).noV
    · exact (supB_ok (d := "StrideError") (x := "InvalidArray") (c.fact 28 rfl)).noV
    · exact (supB_ok (d := "StrideError") (x := "InvalidBarrier") (c.fact 30 rfl)).noV
    · exact (supB_ok (d := "StrideError") (x := "InvalidGuard") (c.fact 32 rfl)).noV
    · exact (supB_ok (d := "StrideError") (x := "InvalidLanes") (c.fact 34 rfl)).noV
    · exact (supB_ok (d := "StrideError") (x := "InvalidNumber") (c.fact 36 rfl)).noV
    · exact (supB_ok (d := "StrideError") (x := "InvalidSchedule") (c.fact 38 rfl)).noV
    · exact (supB_ok (d := "StrideError") (x := "InvalidStatement") (c.fact 40 rfl)).noV
    · exact (supB_ok (d := "StrideError") (x := "NotPlain") (c.fact 42 rfl)).noV
    · exact (supB_ok (d := "StrideError") (x := "NothingToUndo") (c.fact 44 rfl)).noV
    · exact (supB_ok (d := "StrideError") (x := "Racing") (c.fact 46 rfl)).noV
    · exact (supB_ok (d := "StrideError") (x := "StrideError") (c.fact 48 rfl)).noV
    · exact (supB_ok (d := "StrideError") (x := "UnlikeLanes") (c.fact 50 rfl)).noV
    · exact (supB_ok (d := "StrideError") (x := "Unreadable") (c.fact 52 rfl)).noV
  xc := fun k hk => by
    simp only [ecs, List.mem_cons, List.not_mem_nil, or_false] at hk
    rcases hk with rfl | rfl | rfl | rfl | rfl | rfl | rfl | rfl | rfl | rfl | rfl | rfl | rfl | rfl
    · exact (excB_ok (x := "InvalidAccess") (c.fact 70 rfl)).2
    · exact (excB_ok (x := "InvalidArray") (c.fact 71 rfl)).2
    · exact (excB_ok (x := "InvalidBarrier") (c.fact 72 rfl)).2
    · exact (excB_ok (x := "InvalidGuard") (c.fact 73 rfl)).2
    · exact (excB_ok (x := "InvalidLanes") (c.fact 74 rfl)).2
    · exact (excB_ok (x := "InvalidNumber") (c.fact 75 rfl)).2
    · exact (excB_ok (x := "InvalidSchedule") (c.fact 76 rfl)).2
    · exact (excB_ok (x := "InvalidStatement") (c.fact 77 rfl)).2
    · exact (excB_ok (x := "NotPlain") (c.fact 78 rfl)).2
    · exact (excB_ok (x := "NothingToUndo") (c.fact 79 rfl)).2
    · exact (excB_ok (x := "Racing") (c.fact 80 rfl)).2
    · exact (excB_ok (x := "StrideError") (c.fact 81 rfl)).2
    · exact (excB_ok (x := "UnlikeLanes") (c.fact 82 rfl)).2
    · exact (excB_ok (x := "Unreadable") (c.fact 83 rfl)).2
  xb := fun k hk => by
    simp only [ecs, List.mem_cons, List.not_mem_nil, or_false] at hk
    rcases hk with rfl | rfl | rfl | rfl | rfl | rfl | rfl | rfl | rfl | rfl | rfl | rfl | rfl | rfl
    · exact (excB_ok (x := "InvalidAccess") (c.fact 70 rfl)).1.exC
    · exact (excB_ok (x := "InvalidArray") (c.fact 71 rfl)).1.exC
    · exact (excB_ok (x := "InvalidBarrier") (c.fact 72 rfl)).1.exC
    · exact (excB_ok (x := "InvalidGuard") (c.fact 73 rfl)).1.exC
    · exact (excB_ok (x := "InvalidLanes") (c.fact 74 rfl)).1.exC
    · exact (excB_ok (x := "InvalidNumber") (c.fact 75 rfl)).1.exC
    · exact (excB_ok (x := "InvalidSchedule") (c.fact 76 rfl)).1.exC
    · exact (excB_ok (x := "InvalidStatement") (c.fact 77 rfl)).1.exC
    · exact (excB_ok (x := "NotPlain") (c.fact 78 rfl)).1.exC
    · exact (excB_ok (x := "NothingToUndo") (c.fact 79 rfl)).1.exC
    · exact (excB_ok (x := "Racing") (c.fact 80 rfl)).1.exC
    · exact (excB_ok (x := "StrideError") (c.fact 81 rfl)).1.exC
    · exact (excB_ok (x := "UnlikeLanes") (c.fact 82 rfl)).1.exC
    · exact (excB_ok (x := "Unreadable") (c.fact 83 rfl)).1.exC
  z_abs := He.free_ok X G (x := "abs") (c.fact 84 rfl)
  z_isinstance := He.free_ok X G (x := "isinstance") (c.fact 85 rfl)
  z_len := He.free_ok X G (x := "len") (c.fact 86 rfl)
  z_min := He.free_ok X G (x := "min") (c.fact 87 rfl)
  z_range := He.free_ok X G (x := "range") (c.fact 88 rfl)
  z_repr := He.free_ok X G (x := "repr") (c.fact 89 rfl)
def loose_0 : List Str := ["StrideError", "InvalidGuard", "InvalidLanes", "InvalidStatement", "InvalidBarrier", "InvalidAccess", "InvalidNumber", "InvalidArray", "InvalidSchedule", "UnlikeLanes", "Racing", "NotPlain", "NothingToUndo", "Unreadable", "_law_bag", "_law_draw", "_law_made", "_law_flags"]
def lawLoose : List Str := loose_0
abbrev lawR : PySem.W.OpenRow := PySem.W.OpenLaw.row PySem.Challenge.rw_stridelanes_k80_errors_made
abbrev lawHk : PySem.W.Hook := hookY 1500 lawFn lawTs lawEx
def lawOb (s : PySem.W.SharedT) : AlY := obsY 1500 lawFn lawTs lawEx (HandSHeadRun.getT s)
theorem lawOb_eq (s : PySem.W.SharedT) : lawOb s = lawHk.obs s.abs := obsY_eq (HandSHeadRun.getT_eq s)
noncomputable abbrev lawTop (w : World) (os : OsState) : Option PySem.W.SharedT := HandSHeadRun.endF (HandSHeadRun.stepQ (HandSHeadRun.denQ HandSHeadRun.tabQ) lawR.prog w) 20000 lawR.prog w os
abbrev lawQ : Program := PySem.W.view lawR.prog [20]
open HandSHeadRun PySem.W PySem.Calls in
noncomputable abbrev lawSeen (w : World) (os : OsState) : Prop := (lawTop w os).map (fun s => (looksF lawR.prog (boot_heap w.params) s.abs, seenQ lawQ lawLoose (importedModules lawR.prog.main.body) (fun s => xlAt lawQ [] s && recOk lawR.toRowW.records s) s.abs)) = some (true, PySem.W.openGood lawQ lawLoose)
noncomputable abbrev lawObs (w : World) (os : OsState) : Prop := (lawTop w os).map lawOb = some (valY lawFn lawTs w)
theorem law_seen_f (w : World) (os : OsState) : lawSeen (w.withFollow "special-get-raises" false) os := by
  kernel_rfl
theorem law_seen_t (w : World) (os : OsState) : lawSeen (w.withFollow "special-get-raises" true) os := by
  kernel_rfl
theorem law_obs_f (w : World) (os : OsState) : lawObs (w.withFollow "special-get-raises" false) os := by
  kernel_rfl
theorem law_obs_t (w : World) (os : OsState) : lawObs (w.withFollow "special-get-raises" true) os := by
  kernel_rfl
theorem law_run (w : World) : HandSHeadRun.RunEq lawR (PySem.W.view lawR.prog [20]) lawHk lawOb 20000 lawLoose w := fun os =>
  run_join (PySem.W.byRow2 "special-get-raises" (P := fun w => lawSeen w os) (fun w => law_seen_f w os) (fun w => law_seen_t w os) w)
    (PySem.W.byRow2 "special-get-raises" (P := fun w => lawObs w os) (fun w => law_obs_f w os) (fun w => law_obs_t w os) w)
theorem law_facts {w : World} {K : Fg} {h : Heap} {mg : Str → Option Value} {f : Addr} (X : K.In h) (G : h.Ns mainGlobals mg) (hfa : mg ("law" : Str) = some (.ref f)) (c : SaysY lawFn lawTs lawEx w K) :
    ∃ fd : FuncData, (∀ (s : Shared) (v : Value), BindsTo s fd ⟨[v], []⟩ [("script", v)]) ∧ ∀ base : Heap, K.In base → base.Ns mainGlobals mg → FnAt PRG w K mg base (L2.CX PRG w) f fd ["script"] (spD K (adK K) F_law) := by
  have hg := He.glo_ok X G (x := "law") (c.fact 8 rfl)
  have e := hfa.symm.trans hg
  cases e
  obtain ⟨fd, Fu⟩ := DefY.fun_ (c.def_ 4 rfl).1 (c.def_ 4 rfl).2 rfl
  have bd : Binds K fd ["script"] [] := Fu.binds (ps := ["script"]) fun _ _ _ _ _ _ us hl => match us, hl with | [_], _ => rfl
  refine ⟨fd, fun s v => ?_, fun base _ _ => fnAtD Fu S_law (k := 5) ⟨rfl, by decide, by decide⟩ (by decide) fun cdv outer s H E hr hgd => b_law (tx_of (base := base) X G c) cdv callerA outer s H E hr hgd⟩
  obtain ⟨oc, od, kV, doc, pm, an, cdv, ct, osl, e1, l, cc⟩ := Fu.ex
  subst e1
  exact .of_eq rfl
end DL
open PySem PySem.W PySem.Calls PyProof.Rows
set_option maxHeartbeats 0 in
theorem PySem.Challenge.cw_stridelanes_k80_errors_made_holds : PySem.Challenge.rw_stridelanes_k80_errors_made.Holds := by
  w_on; o_law
  refine HandSHeadRun.head_any (r := OpenLaw.row PySem.Challenge.rw_stridelanes_k80_errors_made) (q := view (OpenLaw.row PySem.Challenge.rw_stridelanes_k80_errors_made).prog [20]) (H := DL.lawHk) (ob := DL.lawOb) (M := 20000) (loose := DL.lawLoose) (d := HandSHeadRun.topDef (OpenLaw.row PySem.Challenge.rw_stridelanes_k80_errors_made).prog 20) (kwd := []) DL.lawOb_eq
    (by kernel_rfl) (fun s => by kernel_rfl) DL.law_run (by kernel_rfl) (by kernel_rfl) (by kernel_rfl) (by rfl) (by first | assumption | decide +kernel) (by decide +kernel) ⟨rfl, rfl, rfl, rfl, rfl, by decide +kernel⟩ ?hw ?hc
  case hw => w_witness2
  case hc =>
    refine DL.walk_lawG (l := PySem.Challenge.rw_stridelanes_k80_errors_made) (n := 63) rfl (by decide) (by kernel_rfl) ?_
    intro w mg fa h Y G hmg0
    obtain ⟨K, KX, c⟩ := Y
    have hmg : mg ("law" : PySem.Str) = some (.ref fa) := by
      have e : (HandSHeadRun.topDef (OpenLaw.row PySem.Challenge.rw_stridelanes_k80_errors_made).prog 20).name = ("law" : PySem.Str) := by kernel_rfl
      rw [← e]
      exact hmg0
    obtain ⟨fd, hb, hF⟩ := DL.law_facts (w := w) KX G hmg c
    exact ⟨K, fd, DL.adK K, DL.F_law, KX, hb, fun ns hl => DL.law_ok ns hl, hF⟩

