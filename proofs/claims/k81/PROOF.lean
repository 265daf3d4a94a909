import PyProof.Rows.All
import Wide.All
import OpenK.AllK
import Wide.FinOn
import HandS.ForMost
import HandS.Flow
import HandS.Wide
import HandS.SortInts
import HandS.IsInst
import HandS.TupAny
import HandS.Style
import HandS.Deep
import HandS.Defaults
import KE.KStateDown
import Lean
import HandS.More
import HandS.WordsExc
import HandS.Head0
import HandS.Head1
import HandS.Head2
import HandS.HeadEnd
import HandS.HeadHook1
import HandS.HeadHook2
import PySem.Challenge.RW_rillwise_k81_apart_or_not
set_option Elab.async false
set_option linter.all false
set_option maxRecDepth 100000
set_option maxHeartbeats 0
namespace MP
open PySem PySem.Spec PyProof.Rows L2
abbrev Sg := L2.St

/-- data: pure trees -/
inductive D where
  | non | bl (b : Bool) | int (i : Int) | str (x : Str)
  | tup (ds : List D) | lst (ds : List D)
  | ins (c : Nat) (fs : List D)
  deriving Inhabited

/-- what is fixed: the written part, where classes stand, their fields -/
structure RP where
  K : PySem.W.Frag
  ca : Nat → Addr
  fl : Nat → List Str

def TupAt (K : PySem.W.Frag) (L : Addr → Prop) (H : Hp) (a : Addr) (vs : List V) : Prop :=
  (H a = some (.tup vs) ∧ ¬ L a) ∨ SqT K (fun _ => none) a vs
mutual
/-- the value v is the data d in H; L: the addresses of lists that may still change -/
def Rep (P : RP) (L : Addr → Prop) (H : Hp) : D → V → Prop
  | .non, v => v = .non
  | .bl b, v => v = .bl b
  | .int i, v => v = .int i
  | .str x, v => v = .str x
  | .tup ds, v => ∃ a vs, v = .ref a ∧ TupAt P.K L H a vs ∧ Reps P L H ds vs
  | .lst ds, v => ∃ a vs, v = .ref a ∧ H a = some (.lst vs) ∧ ¬ L a ∧ Reps P L H ds vs
  | .ins c fs, v => ∃ a dx vs, v = .ref a ∧ H a = some (.ins (P.ca c) dx ((P.fl c).zip vs)) ∧ ¬ L a ∧ vs.length ≤ (P.fl c).length ∧ Reps P L H fs vs
def Reps (P : RP) (L : Addr → Prop) (H : Hp) : List D → List V → Prop
  | [], vs => vs = []
  | d :: ds, vs => ∃ v r, vs = v :: r ∧ Rep P L H d v ∧ Reps P L H ds r
end
variable {P : RP} {L L' : Addr → Prop} {H H' : Hp}

theorem SqT.wr {K : PySem.W.Frag} {H : Hp} {a : Addr} {vs : List V} (h : SqT K (fun _ => none) a vs) : SqT K H a vs := by
  rcases h with (h | ⟨o, h⟩) | h
  · cases h
  · cases h
  · exact .inr h
theorem TupAt.sq {K : PySem.W.Frag} {a : Addr} {vs : List V} (h : TupAt K L H a vs) : SqT K H a vs := by
  rcases h with ⟨h, _⟩ | h
  · exact SqT.of h
  · exact SqT.wr h
theorem TupAt.keep {K : PySem.W.Frag} {a : Addr} {vs : List V} (k : ∀ b o, H b = some o → ¬ L b → H' b = some o) (l : ∀ b, L' b → L b ∨ H b = none) (h : TupAt K L H a vs) : TupAt K L' H' a vs := by
  rcases h with ⟨h, n⟩ | h
  · refine .inl ⟨k _ _ h n, fun z => ?_⟩
    rcases l _ z with z | z
    · exact n z
    · rw [z] at h; cases h
  · exact .inr h
mutual
theorem Rep.keep (k : ∀ b o, H b = some o → ¬ L b → H' b = some o) (l : ∀ b, L' b → L b ∨ H b = none) : ∀ (d : D) (v : V), Rep P L H d v → Rep P L' H' d v
  | .non, _, h => h
  | .bl _, _, h => h
  | .int _, _, h => h
  | .str _, _, h => h
  | .tup ds, v, h => by
    unfold Rep at h ⊢
    obtain ⟨a, vs, e, t, r⟩ := h
    exact ⟨a, vs, e, t.keep k l, Reps.keep k l ds vs r⟩
  | .lst ds, v, h => by
    unfold Rep at h ⊢
    obtain ⟨a, vs, e, t, n, r⟩ := h
    refine ⟨a, vs, e, k _ _ t n, fun z => ?_, Reps.keep k l ds vs r⟩
    rcases l _ z with z | z
    · exact n z
    · rw [z] at t; cases t
  | .ins c fs, v, h => by
    unfold Rep at h ⊢
    obtain ⟨a, dx, vs, e, t, n, hl, r⟩ := h
    refine ⟨a, dx, vs, e, k _ _ t n, fun z => ?_, hl, Reps.keep k l fs vs r⟩
    rcases l _ z with z | z
    · exact n z
    · rw [z] at t; cases t
theorem Reps.keep (k : ∀ b o, H b = some o → ¬ L b → H' b = some o) (l : ∀ b, L' b → L b ∨ H b = none) : ∀ (ds : List D) (vs : List V), Reps P L H ds vs → Reps P L' H' ds vs
  | [], _, h => h
  | d :: ds, vs, h => by
    unfold Reps at h ⊢
    obtain ⟨v, r, e, h1, h2⟩ := h
    exact ⟨v, r, e, Rep.keep k l d v h1, Reps.keep k l ds r h2⟩
end
theorem Reps.length : ∀ {ds : List D} {vs : List V}, Reps P L H ds vs → ds.length = vs.length
  | [], _, h => by unfold Reps at h; subst h; rfl
  | d :: ds, vs, h => by
    unfold Reps at h
    obtain ⟨v, r, rfl, _, h2⟩ := h
    simp [Reps.length h2]
theorem Reps.nil : Reps P L H [] [] := by unfold Reps; rfl
theorem Reps.cons {d : D} {ds : List D} {v : V} {vs : List V} (h : Rep P L H d v) (hs : Reps P L H ds vs) : Reps P L H (d :: ds) (v :: vs) := by
  unfold Reps; exact ⟨v, vs, rfl, h, hs⟩
theorem Reps.get : ∀ {ds : List D} {vs : List V} {i : Nat} {d : D}, Reps P L H ds vs → ds[i]? = some d → ∃ v, vs[i]? = some v ∧ Rep P L H d v
  | [], _, i, d, h, e => by simp at e
  | d' :: ds, vs, i, d, h, e => by
    unfold Reps at h
    obtain ⟨v, r, rfl, h1, h2⟩ := h
    cases i with
    | zero => simp at e; subst e; exact ⟨v, by simp, h1⟩
    | succ i =>
      obtain ⟨w, e2, h3⟩ := Reps.get (i := i) h2 (by simpa using e)
      exact ⟨w, by simpa using e2, h3⟩
theorem Reps.getV : ∀ {ds : List D} {vs : List V} {i : Nat} {v : V}, Reps P L H ds vs → vs[i]? = some v → ∃ d, ds[i]? = some d ∧ Rep P L H d v
  | [], _, i, d, h, e => by unfold Reps at h; subst h; simp at e
  | d' :: ds, vs, i, v', h, e => by
    unfold Reps at h
    obtain ⟨v, r, rfl, h1, h2⟩ := h
    cases i with
    | zero => simp at e; subst e; exact ⟨d', by simp, h1⟩
    | succ i =>
      obtain ⟨w, e2, h3⟩ := Reps.getV (i := i) h2 (by simpa using e)
      exact ⟨w, by simpa using e2, h3⟩
theorem Reps.append : ∀ {ds es : List D} {vs ws : List V}, Reps P L H ds vs → Reps P L H es ws → Reps P L H (ds ++ es) (vs ++ ws)
  | [], _, _, _, h, h' => by unfold Reps at h; subst h; exact h'
  | d :: ds, es, vs, ws, h, h' => by
    unfold Reps at h
    obtain ⟨v, r, rfl, h1, h2⟩ := h
    exact Reps.cons h1 (Reps.append h2 h')
theorem Reps.take : ∀ {ds : List D} {vs : List V} (n : Nat), Reps P L H ds vs → Reps P L H (ds.take n) (vs.take n)
  | [], _, n, h => by unfold Reps at h; subst h; simp; exact Reps.nil
  | d :: ds, vs, 0, h => by simp; exact Reps.nil
  | d :: ds, vs, n + 1, h => by
    unfold Reps at h
    obtain ⟨v, r, rfl, h1, h2⟩ := h
    exact Reps.cons h1 (Reps.take n h2)
theorem Reps.drop : ∀ {ds : List D} {vs : List V} (n : Nat), Reps P L H ds vs → Reps P L H (ds.drop n) (vs.drop n)
  | [], _, n, h => by unfold Reps at h; subst h; simp; exact Reps.nil
  | d :: ds, vs, 0, h => h
  | d :: ds, vs, n + 1, h => by
    unfold Reps at h
    obtain ⟨v, r, rfl, h1, h2⟩ := h
    exact Reps.drop n h2
theorem Reps.set : ∀ {ds : List D} {vs : List V} {d : D} {v : V} (i : Nat), Rep P L H d v → Reps P L H ds vs → Reps P L H (ds.set i d) (vs.set i v)
  | [], _, _, _, n, _, h => by unfold Reps at h; subst h; simp; exact Reps.nil
  | d' :: ds, vs, d, w, n, hd, h => by
    unfold Reps at h
    obtain ⟨v, r, rfl, h1, h2⟩ := h
    cases n with
    | zero => exact Reps.cons hd h2
    | succ n => exact Reps.cons h1 (Reps.set n hd h2)
theorem Reps.eraseIdx : ∀ {ds : List D} {vs : List V} (i : Nat), Reps P L H ds vs → Reps P L H (ds.eraseIdx i) (vs.eraseIdx i)
  | [], _, n, h => by unfold Reps at h; subst h; simp; exact Reps.nil
  | d' :: ds, vs, n, h => by
    unfold Reps at h
    obtain ⟨v, r, rfl, h1, h2⟩ := h
    cases n with
    | zero => exact h2
    | succ n => exact Reps.cons h1 (Reps.eraseIdx n h2)
theorem Reps.reverse {ds : List D} {vs : List V} (h : Reps P L H ds vs) : Reps P L H ds.reverse vs.reverse := by
  induction ds generalizing vs with
  | nil => unfold Reps at h; subst h; exact Reps.nil
  | cons d ds ih =>
    unfold Reps at h
    obtain ⟨v, r, rfl, h1, h2⟩ := h
    simp only [List.reverse_cons]
    exact Reps.append (ih h2) (Reps.cons h1 Reps.nil)
/-- same heap up to more tracked things -/
theorem Rep.same (s : Same H H') {d : D} {v : V} (h : Rep P L H d v) : Rep P L H' d v := Rep.keep (fun b o e _ => s b o e) (fun b z => .inl z) d v h
theorem Reps.same (s : Same H H') {d : List D} {v : List V} (h : Reps P L H d v) : Reps P L H' d v := Reps.keep (fun b o e _ => s b o e) (fun b z => .inl z) d v h
theorem Rep.weak (l : ∀ b, L' b → L b) {d : D} {v : V} (h : Rep P L H d v) : Rep P L' H d v := Rep.keep (fun b o e _ => e) (fun b z => .inl (l b z)) d v h
theorem Reps.weak (l : ∀ b, L' b → L b) {d : List D} {v : List V} (h : Reps P L H d v) : Reps P L' H d v := Reps.keep (fun b o e _ => e) (fun b z => .inl (l b z)) d v h
theorem same_upd {p : Addr} {o : HO} (h : H p = none) : Same H (upd H p o) := fun b x e => by rw [upd_ne (ne_of_none e h)]; exact e

/-- lists of ints as values -/
theorem Reps.ints : ∀ {ns : List Int} {vs : List V}, Reps P L H (ns.map D.int) vs → vs = ns.map V.int
  | [], _, h => by unfold Reps at h; subst h; rfl
  | n :: ns, vs, h => by
    simp only [List.map_cons] at h
    unfold Reps at h
    obtain ⟨v, r, rfl, h1, h2⟩ := h
    unfold Rep at h1
    rw [h1, Reps.ints h2]; rfl
theorem Reps.of_ints : ∀ (ns : List Int), Reps P L H (ns.map D.int) (ns.map V.int)
  | [] => Reps.nil
  | n :: ns => Reps.cons (by unfold Rep; rfl) (Reps.of_ints ns)
theorem Reps.bls : ∀ {ns : List Bool} {vs : List V}, Reps P L H (ns.map D.bl) vs → vs = ns.map V.bl
  | [], _, h => by unfold Reps at h; subst h; rfl
  | n :: ns, vs, h => by
    simp only [List.map_cons] at h
    unfold Reps at h
    obtain ⟨v, r, rfl, h1, h2⟩ := h
    unfold Rep at h1
    rw [h1, Reps.bls h2]; rfl

/-! ### locals -/
inductive Slot where
  | none
  /-- data -/
  | dat (d : D)
  /-- a list of its own; b: it is a parameter that the caller lent -/
  | own (b : Bool) (ds : List D)
  /-- the script -/
  | scr (ns : List Int)
abbrev Loc := List Slot
def OwnAt (loc : Loc) (σ : Sg) (a : Addr) : Prop := ∃ (i : Nat) (b : Bool) (ds : List D), loc[i]? = some (.own b ds) ∧ σ[i]? = some (some (.ref a))
def Lv (L0 : Addr → Prop) (loc : Loc) (σ : Sg) (a : Addr) : Prop := L0 a ∨ OwnAt loc σ a
def ScrAt (K : PySem.W.Frag) (L : Addr → Prop) (H : Hp) (a : Addr) (xs : List V) : Prop := (Rd H a (.lst xs) ∧ ¬ L a) ∨ SqL K (fun _ => Option.none) a xs
theorem ScrAt.sq {K : PySem.W.Frag} {a : Addr} {vs : List V} (h : ScrAt K L H a vs) : SqL K H a vs := by
  rcases h with ⟨h, _⟩ | h
  · exact .inl h
  · rcases h with (h | ⟨o, h⟩) | h
    · cases h
    · cases h
    · exact .inr h
theorem ScrAt.keep {K : PySem.W.Frag} {a : Addr} {vs : List V} (k : ∀ b o, H b = some o → ¬ L b → H' b = some o) (l : ∀ b, L' b → L b ∨ H b = none) (h : ScrAt K L H a vs) : ScrAt K L' H' a vs := by
  rcases h with ⟨h, n⟩ | h
  · refine .inl ⟨?_, fun z => ?_⟩
    · rcases h with h | ⟨o, h⟩
      · exact .inl (k _ _ h n)
      · exact .inr ⟨o, k _ _ h n⟩
    · rcases l _ z with z | z
      · exact n z
      · rcases h with h | ⟨o, h⟩ <;> (rw [z] at h; cases h)
  · exact .inr h

structure Rel (P : RP) (L0 : Addr → Prop) (loc : Loc) (σ : Sg) (H : Hp) : Prop where
  len : loc.length = σ.length
  l0 : ∀ b, L0 b → ∃ o, H b = some o
  dat : ∀ (i : Nat) (d : D), loc[i]? = some (.dat d) → ∃ v, σ[i]? = some (some v) ∧ Rep P (Lv L0 loc σ) H d v
  own : ∀ (i : Nat) (b : Bool) (ds : List D), loc[i]? = some (.own b ds) → ∃ a vs, σ[i]? = some (some (.ref a)) ∧ H a = some (.lst vs) ∧ ¬ L0 a ∧ Reps P (Lv L0 loc σ) H ds vs
  inj : ∀ (i j : Nat) (b c : Bool) (ds es : List D) (a : Addr), loc[i]? = some (.own b ds) → loc[j]? = some (.own c es) → σ[i]? = some (some (.ref a)) → σ[j]? = some (some (.ref a)) → i = j
  scr : ∀ (i : Nat) (ns : List Int), loc[i]? = some (.scr ns) → ∃ a, σ[i]? = some (some (.ref a)) ∧ ScrAt P.K (Lv L0 loc σ) H a (ns.map V.int)

theorem Rel.lv {loc : Loc} {σ : Sg} {L0 : Addr → Prop} (R : Rel P L0 loc σ H) {a : Addr} (h : Lv L0 loc σ a) : ∃ o, H a = some o := by
  rcases h with h | ⟨i, b, ds, e, s⟩
  · exact R.l0 _ h
  · obtain ⟨a', vs, s', h, _⟩ := R.own i b ds e
    rw [s] at s'; cases s'
    exact ⟨_, h⟩
/-- the heap grows; more may be live of what is new -/
theorem Rel.grow {loc : Loc} {σ : Sg} {L0 L0' : Addr → Prop} (R : Rel P L0 loc σ H) (s : Same H H') (l : ∀ b, L0' b → L0 b ∨ H b = none) (t : ∀ b, L0' b → ∃ o, H' b = some o) : Rel P L0' loc σ H' := by
  have hl : ∀ b, Lv L0' loc σ b → Lv L0 loc σ b ∨ H b = none := fun b z => by
    rcases z with z | z
    · rcases l b z with z | z
      · exact .inl (.inl z)
      · exact .inr z
    · exact .inl (.inr z)
  have k : ∀ b o, H b = some o → ¬ Lv L0 loc σ b → H' b = some o := fun b o e _ => s b o e
  refine ⟨R.len, t, fun i d e => ?_, fun i b ds e => ?_, R.inj, fun i ns e => ?_⟩
  · obtain ⟨v, e1, r⟩ := R.dat i d e
    exact ⟨v, e1, Rep.keep k hl d v r⟩
  · obtain ⟨a, vs, e1, h, n, r⟩ := R.own i b ds e
    refine ⟨a, vs, e1, s _ _ h, fun z => ?_, Reps.keep k hl ds vs r⟩
    rcases l _ z with z | z
    · exact n z
    · rw [z] at h; cases h
  · obtain ⟨a, e1, h⟩ := R.scr i ns e
    exact ⟨a, e1, h.keep k hl⟩

/-! ### results -/
inductive R where
  | val (d : D)
  | ref (i : Nat)
  /-- a list that is new and nobody else's -/
  | new (ds : List D)
def RepR (P : RP) (L0 : Addr → Prop) (loc : Loc) (σ : Sg) (H : Hp) : R → V → Prop
  | .val d, v => Rep P (Lv L0 loc σ) H d v
  | .ref i, v => σ[i]? = some (some v)
  | .new ds, v => ∃ a vs, v = .ref a ∧ H a = some (.lst vs) ∧ ¬ Lv L0 loc σ a ∧ Reps P (fun b => Lv L0 loc σ b ∨ b = a) H ds vs ∧ Rel P (fun b => L0 b ∨ b = a) loc σ H
def sett : R → R
  | .new ds => .val (.lst ds)
  | r => r
theorem RepR.sett {loc : Loc} {σ : Sg} {L0 : Addr → Prop} {r : R} {v : V} (h : RepR P L0 loc σ H r v) : RepR P L0 loc σ H (sett r) v := by
  cases r with
  | new ds =>
    obtain ⟨a, vs, e, h1, h2, h3, _⟩ := h
    show Rep P _ H (.lst ds) v
    unfold Rep
    exact ⟨a, vs, e, h1, h2, Reps.weak (fun b z => .inl z) h3⟩
  | val d => exact h
  | ref i => exact h

/-- behind an expression -/
structure EvPost (P : RP) (L0 : Addr → Prop) (loc : Loc) (σ : Sg) (H : Hp) (loc' : Loc) (r : R) (v : V) (H' : Hp) : Prop where
  rel : Rel P L0 loc' σ H'
  keep : ∀ b o, H b = some o → ¬ OwnAt loc σ b → H' b = some o
  own : ∀ b, OwnAt loc' σ b → OwnAt loc σ b
  rep : RepR P L0 loc' σ H' r v
  there : ∀ b o, H b = some o → ∃ o', H' b = some o'
  fresh : ∀ ds p, r = .new ds → v = .ref p → H p = none
  pin : ∀ (i : Nat) (ds : List D), loc[i]? = some (.own true ds) → ∃ ds', loc'[i]? = some (.own true ds')
  fix : ∀ (i : Nat) (s : Slot), loc[i]? = some s → (∀ b ds, s ≠ .own b ds) → loc'[i]? = some s
/-- the reading of an evaluator -/
def tE (P : RP) (g : Loc → Option (R × Loc)) : TE := fun σ H Q => ∃ L0 loc r loc', Rel P L0 loc σ H ∧ g loc = some (r, loc') ∧ ∀ v H', EvPost P L0 loc σ H loc' r v H' → Q v H'

/-- what is kept, for data -/
theorem EvPost.kp {loc loc' : Loc} {σ : Sg} {L0 : Addr → Prop} {r : R} {v : V} (p : EvPost P L0 loc σ H loc' r v H') : ∀ b o, H b = some o → ¬ Lv L0 loc σ b → H' b = some o :=
  fun b o e n => p.keep b o e fun z => n (.inr z)
theorem EvPost.lv {loc loc' : Loc} {σ : Sg} {L0 : Addr → Prop} {r : R} {v : V} (p : EvPost P L0 loc σ H loc' r v H') : ∀ b, Lv L0 loc' σ b → Lv L0 loc σ b ∨ H b = none :=
  fun b z => .inl (z.imp id (p.own b))
/-- an earlier result behind a later step -/
theorem RepR.after {loc loc' : Loc} {σ : Sg} {L0 : Addr → Prop} {r r' : R} {v v' : V} (h : RepR P L0 loc σ H (MP.sett r') v') (p : EvPost P L0 loc σ H loc' r v H') : RepR P L0 loc' σ H' (MP.sett r') v' := by
  cases r' with
  | val d => exact Rep.keep p.kp p.lv _ _ h
  | ref i => exact h
  | new ds => exact Rep.keep p.kp p.lv (.lst ds) _ h
theorem EvPost.trans {loc loc1 loc2 : Loc} {σ : Sg} {L0 : Addr → Prop} {H1 H2 : Hp} {r r' : R} {v v' : V} (p : EvPost P L0 loc σ H loc1 r v H1) (q : EvPost P L0 loc1 σ H1 loc2 r' v' H2) : EvPost P L0 loc σ H loc2 r' v' H2 :=
  ⟨q.rel, fun b o e n => q.keep b o (p.keep b o e n) fun z => n (p.own b z), fun b z => p.own b (q.own b z), q.rep,
    fun b o e => by obtain ⟨o', e'⟩ := p.there b o e; exact q.there b o' e',
    (fun ds c e1 e2 => by
      have h := q.fresh ds c e1 e2
      cases e : H c with
      | none => rfl
      | some o => obtain ⟨o', e'⟩ := p.there c o e; rw [h] at e'; cases e'),
    (fun i ds e => by obtain ⟨ds1, e1⟩ := p.pin i ds e; exact q.pin i ds1 e1), fun i s e n => q.fix i s (p.fix i s e n) n⟩
end MP

namespace MP
open PySem L2

inductive Ty where
  | int | bool | list | tuple | str
  deriving DecidableEq
inductive O1 where
  | neg | len | int | list | tuple | sorted | all | any | sum | abs | isi (t : Ty) | bool
inductive O2 where
  | add | sub | mul | fdiv | mod | pow | shl | shr | band
  | eq | ne | lt | le | gt | ge | isin | notin | is | isnot
  | ix
  deriving DecidableEq
inductive Pat where
  | v (i : Nat)
  | tup (ps : List Nat)

mutual
inductive ME where
  | c (d : D)
  | g (k : Nat)
  | v (i : Nat)
  | r (i : Nat)
  | fz (i : Nat)
  | tup (es : List ME)
  | lst (es : List ME)
  | o1 (o : O1) (a : ME)
  | o2 (o : O2) (a b : ME)
  | ch (o o' : O2) (a b c : ME)
  | sl (a : ME) (lo hi : Option ME)
  | and (a b : ME)
  | or (a b : ME)
  | not (a : ME)
  | ite (c a b : ME)
  | call (f : Nat) (as : List ME)
  | callK (f : Nat) (as ks : List ME) (perm : List Nat)
  | lc (own : List Nat) (p : Pat) (it : IT) (cs : List ME) (elt : ME)
  | app (i : Nat) (e : ME)
  | pop (i : Nat)
  | popAt (i : Nat) (e : ME)
  | clear (i : Nat)
  | ext (i : Nat) (e : ME)
  | sIx (i : Nat) (e : ME)
  | sLen (i : Nat)
  | sSl (i : Nat) (lo hi : Option ME)
inductive IT where
  | seq (a : ME)
  | tpl (a : ME)
  | rng1 (a : ME)
  | rng2 (a b : ME)
  | enum (a : ME)
  | zip (a b : ME)
end

/-! ### operations on data -/
def big : Nat := 1000000
mutual
def D.beq : D → D → Bool
  | .non, e => match e with | .non => true | _ => false
  | .bl a, e => match e with | .bl b => a == b | .int j => (if a then 1 else 0) == j | _ => false
  | .int i, e => match e with | .bl b => i == (if b then 1 else 0) | .int j => i == j | _ => false
  | .str x, e => match e with | .str y => decide (x = y) | _ => false
  | .tup xs, e => match e with | .tup ys => D.beqs xs ys | _ => false
  | .lst xs, e => match e with | .lst ys => D.beqs xs ys | _ => false
  | .ins _ _, _ => false
def D.beqs : List D → List D → Bool
  | [], e => match e with | [] => true | _ => false
  | x :: xs, e => match e with | y :: ys => D.beq x y && D.beqs xs ys | [] => false
end
mutual
/-- fit for comparing: no instance in it, not deep -/
def D.plain : Nat → D → Bool
  | n, .tup xs => match n with | 0 => false | n + 1 => D.plains n xs
  | n, .lst xs => match n with | 0 => false | n + 1 => D.plains n xs
  | _, .ins _ _ => false
  | _, .str x => PySem.PyData.strOk x
  | _, _ => true
def D.plains : Nat → List D → Bool
  | _, [] => true
  | n, x :: xs => D.plain n x && D.plains n xs
end
def D.ltInts : List D → List D → Option Bool
  | [], [] => some false
  | [], .int _ :: ys => (D.ltInts [] ys).map fun _ => true
  | .int _ :: xs, [] => (D.ltInts xs []).map fun _ => false
  | .int x :: xs, .int y :: ys => (D.ltInts xs ys).map fun b => if x = y then b else decide (x < y)
  | _, _ => none
def D.int? : D → Option Int
  | .int i => some i
  | _ => none
def D.bl? : D → Option Bool
  | .bl i => some i
  | _ => none
def ints? : List D → Option (List Int)
  | [] => some []
  | d :: ds => match d, ints? ds with
    | .int i, some r => some (i :: r)
    | _, _ => none
def bls? : List D → Option (List Bool)
  | [] => some []
  | d :: ds => match d, bls? ds with
    | .bl i, some r => some (i :: r)
    | _, _ => none
def insS (x : Int) : List Int → List Int
  | [] => [x]
  | y :: ys => if x ≤ y then x :: y :: ys else y :: insS x ys
def sortS : List Int → List Int
  | [] => []
  | x :: xs => insS x (sortS xs)
def seqAt (ds : List D) (i : Int) : Option D := if 0 ≤ i then ds[i.toNat]? else if -(ds.length : Int) ≤ i then ds[(i + ds.length).toNat]? else none
def small (i : Int) : Bool := decide (-(2 ^ 62) ≤ i) && decide (i < 2 ^ 62)
def mulOk (i j : Int) : Bool := (decide (-(2 ^ 64) < i) && decide (i < 2 ^ 64)) || (decide (-(2 ^ 64) < j) && decide (j < 2 ^ 64)) || decide (i.natAbs.log2 + j.natAbs.log2 < 1000000)
def fdivOk (j : Int) : Bool := decide (0 < j) && decide (j.natAbs.log2 < 9000)
def powOk (i j : Int) : Bool := decide (0 ≤ j) && decide (j ≤ 1000000) && decide (i.natAbs < 2 ^ 64)
def flat : D → Bool
  | .non => true | .bl _ => true | .int _ => true | .str _ => true
  | _ => false

def isNon : D → Bool
  | .non => true
  | _ => false
def cmpI (f : Int → Int → Bool) : D → D → Option R
  | .int i, .int j => some (.val (.bl (f i j)))
  | _, _ => none
def ap2 : O2 → D → D → Option R
  | .add, a, b => match a, b with
    | .int i, .int j => some (.val (.int (i + j)))
    | .tup xs, .tup ys => if xs.length + ys.length ≤ big then some (.val (.tup (xs ++ ys))) else none
    | .lst xs, .lst ys => if xs.length + ys.length ≤ big then some (.new (xs ++ ys)) else none
    | _, _ => none
  | .sub, a, b => match a, b with
    | .int i, .int j => some (.val (.int (i - j)))
    | _, _ => none
  | .mul, a, b => match a, b with
    | .int i, .int j => if mulOk i j then some (.val (.int (i * j))) else none
    | .lst xs, .int k => if 0 ≤ k ∧ k ≤ big ∧ xs.length * k.toNat ≤ big then some (.new (List.replicate k.toNat xs).flatten) else none
    | _, _ => none
  | .fdiv, a, b => match a, b with
    | .int i, .int j => if fdivOk j then some (.val (.int (i / j))) else none
    | _, _ => none
  | .mod, a, b => match a, b with
    | .int i, .int j => if 0 < j then some (.val (.int (i % j))) else none
    | _, _ => none
  | .pow, a, b => match a, b with
    | .int i, .int j => if powOk i j then some (.val (.int (i ^ j.toNat))) else none
    | _, _ => none
  | .shl, a, b => match a, b with
    | .int i, .int j => if powOk i j then some (.val (.int (i * 2 ^ j.toNat))) else none
    | _, _ => none
  | .shr, a, b => match a, b with
    | .int i, .int j => if 0 ≤ j then some (.val (.int (i / 2 ^ j.toNat))) else none
    | _, _ => none
  | .band, a, b => match a, b with
    | .int i, .int j => some (.val (.int (Builtin.bitAnd i j)))
    | _, _ => none
  | .eq, a, b => if D.plain 8 a && D.plain 8 b then some (.val (.bl (D.beq a b))) else none
  | .ne, a, b => if D.plain 8 a && D.plain 8 b then some (.val (.bl (!D.beq a b))) else none
  | .lt, a, b => match a, b with
    | .int i, .int j => some (.val (.bl (decide (i < j))))
    | .tup xs, .tup ys => (D.ltInts xs ys).map fun k => .val (.bl k)
    | _, _ => none
  | .le, a, b => cmpI (fun i j => decide (i ≤ j)) a b
  | .gt, a, b => cmpI (fun i j => decide (j < i)) a b
  | .ge, a, b => cmpI (fun i j => decide (j ≤ i)) a b
  | .isin, a, b => match b with
    | .tup ys => if D.plain 8 a && D.plains 8 ys then some (.val (.bl (ys.any fun y => D.beq y a))) else none
    | .lst ys => if D.plain 8 a && D.plains 8 ys then some (.val (.bl (ys.any fun y => D.beq y a))) else none
    | _ => none
  | .notin, a, b => match b with
    | .tup ys => if D.plain 8 a && D.plains 8 ys then some (.val (.bl (!ys.any fun y => D.beq y a))) else none
    | .lst ys => if D.plain 8 a && D.plains 8 ys then some (.val (.bl (!ys.any fun y => D.beq y a))) else none
    | _ => none
  | .is, a, b => match b, a with
    | .non, a => some (.val (.bl (isNon a)))
    | .bl y, .bl x => some (.val (.bl (x == y)))
    | _, _ => none
  | .isnot, a, b => match b, a with
    | .non, a => some (.val (.bl (!isNon a)))
    | .bl y, .bl x => some (.val (.bl (!(x == y))))
    | _, _ => none
  | .ix, a, b => match a, b with
    | .tup xs, .int i => (seqAt xs i).map fun d => .val d
    | .lst xs, .int i => (seqAt xs i).map fun d => .val d
    | _, _ => none
def isTy : Ty → D → Bool
  | .int, .int _ => true | .int, .bl _ => true
  | .bool, .bl _ => true
  | .list, .lst _ => true
  | .tuple, .tup _ => true
  | .str, .str _ => true
  | _, _ => false
def noIns : D → Bool
  | .ins _ _ => false
  | _ => true
def ap1 : O1 → D → Option R
  | .neg, a => match a with
    | .int i => some (.val (.int (-i)))
    | _ => none
  | .len, a => match a with
    | .tup xs => some (.val (.int xs.length))
    | .lst xs => some (.val (.int xs.length))
    | _ => none
  | .int, a => match a with
    | .int i => some (.val (.int i))
    | .bl b => some (.val (.int (if b then 1 else 0)))
    | _ => none
  | .bool, a => match a with
    | .bl b => some (.val (.bl b))
    | _ => none
  | .list, a => match a with
    | .tup xs => some (.new xs)
    | .lst xs => some (.new xs)
    | _ => none
  | .tuple, a => match a with
    | .tup xs => some (.val (.tup xs))
    | .lst xs => some (.val (.tup xs))
    | _ => none
  | .sorted, a => match a with
    | .lst xs => (ints? xs).map fun ns => .new ((sortS ns).map D.int)
    | .tup xs => none
    | _ => none
  | .all, a => match a with
    | .lst xs => (bls? xs).map fun ns => .val (.bl (ns.all id))
    | _ => none
  | .any, a => match a with
    | .lst xs => (bls? xs).map fun ns => .val (.bl (ns.any id))
    | _ => none
  | .sum, a => match a with
    | .lst xs => (ints? xs).map fun ns => .val (.int ns.sum)
    | _ => none
  | .abs, a => match a with
    | .int i => some (.val (.int (if i < 0 then -i else i)))
    | _ => none
  | .isi t, a => if noIns a then some (.val (.bl (isTy t a))) else none
def truth : D → Option Bool
  | .non => some false
  | .bl b => some b
  | .int i => some (i != 0)
  | .tup xs => some (!xs.isEmpty)
  | .lst xs => some (!xs.isEmpty)
  | _ => none
def cutD (xs : List D) (lo hi : Option Int) : List D := (xs.drop (HT.sIx xs.length 0 lo)).take (HT.sIx xs.length xs.length hi - HT.sIx xs.length 0 lo)
def apSl (a : D) (lo hi : Option Int) : Option R := match a with
  | .lst xs => some (.new (cutD xs lo hi))
  | .tup xs => some (.val (.tup (cutD xs lo hi)))
  | _ => none

/-! ### locals -/
def res (loc : Loc) : R → Option D
  | .val d => some d
  | .new ds => some (.lst ds)
  | .ref i => match loc[i]? with
    | some (.own _ ds) => some (.lst ds)
    | _ => none
def toVal : R → Option D
  | .val d => some d
  | .new ds => some (.lst ds)
  | .ref _ => none
/-- a slot that may be stored to -/
def free (loc : Loc) (i : Nat) : Bool := match loc[i]? with
  | some .none => true
  | some (.dat _) => true
  | some (.own b _) => !b
  | some (.scr _) => false
  | none => false
def freeD (loc : Loc) (i : Nat) : Bool := match loc[i]? with
  | some .none => true
  | some (.dat _) => true
  | _ => false
def put (loc : Loc) (i : Nat) (s : Slot) : Option Loc := if free loc i then some (loc.set i s) else none
def puts : List Nat → List D → Loc → Option Loc
  | [], ds, loc => match ds with | [] => some loc | _ => none
  | i :: is, ds, loc => match ds with
    | d :: ds => match put loc i (.dat d) with
      | some loc => puts is ds loc
      | none => none
    | [] => none
def bindP : Pat → D → Loc → Option Loc
  | .v i, d, loc => put loc i (.dat d)
  | .tup is, d, loc => match d with
    | .tup ds => puts is ds loc
    | _ => none
def wipeL (loc : Loc) : List Nat → Loc
  | [] => loc
  | v :: vs => (wipeL loc vs).set v .none
/-- the slots `own` as they were in loc0 -/
def back (loc0 loc1 : Loc) : List Nat → Loc
  | [] => loc1
  | v :: vs => (back loc0 loc1 vs).set v (loc0.getD v .none)

abbrev CallS := Nat → Loc → Option (R × Loc)
def argOf (loc : Loc) : R → Option Slot
  | .val d => some (.dat d)
  | .new ds => some (.dat (.lst ds))
  | .ref i => match loc[i]? with
    | some (.own _ ds) => some (.own true ds)
    | some (.scr ns) => some (.scr ns)
    | _ => none
def argsOf (loc : Loc) : List R → Option Loc
  | [] => some []
  | r :: rs => match argOf loc r, argsOf loc rs with
    | some s, some l => some (s :: l)
    | _, _ => none
def refs : List R → List Nat
  | [] => []
  | .ref i :: rs => i :: refs rs
  | _ :: rs => refs rs
def nodupB : List Nat → Bool
  | [] => true
  | i :: is => !is.contains i && nodupB is
/-- the lent lists as they stand behind the call -/
def given : List R → Loc → Loc → Option Loc
  | [], _, loc => some loc
  | .ref i :: rs, a, loc => match a with
    | .own _ ds :: a' => match loc[i]? with
      | some (.own b _) => given rs a' (loc.set i (.own b ds))
      | _ => none
    | .scr _ :: a' => match loc[i]? with
      | some (.scr _) => given rs a' loc
      | _ => none
    | _ => none
  | _ :: rs, a, loc => match a with
    | _ :: a' => given rs a' loc
    | [] => none
def doCall (C : CallS) (f : Nat) (rs : List R) (loc : Loc) : Option (R × Loc) :=
  if nodupB (refs rs) then
    match argsOf loc rs with
    | some a => match C f a with
      | some (r, a') => match given rs a' loc with
        | some loc' => some (r, loc')
        | none => none
      | none => none
    | none => none
  else none
def perm (p : List Nat) (rs : List R) : Option (List R) := p.mapM fun i => rs[i]?

/-- a comprehension's turns -/
def lcRun (own : List Nat) (p : Pat) (cond : Loc → Option (Bool × Loc)) (elt : Loc → Option (R × Loc)) : List D → Loc → Option (List D × Loc)
  | [], loc => some ([], loc)
  | d :: ds, loc => match bindP p d loc with
    | none => none
    | some l1 => match cond l1 with
      | none => none
      | some (true, l2) => match elt l2 with
        | none => none
        | some (r, l3) => match toVal r with
          | none => none
          | some e => match lcRun own p cond elt ds (wipeL l3 own) with
            | none => none
            | some (es, l4) => some (e :: es, l4)
      | some (false, l2) => lcRun own p cond elt ds (wipeL l2 own)
def rngL (lo : Int) : Nat → List D
  | 0 => []
  | n + 1 => .int lo :: rngL (lo + 1) n
def enumL : Int → List D → List D
  | _, [] => []
  | k, d :: ds => .tup [.int k, d] :: enumL (k + 1) ds
def zipL : List D → List D → List D
  | x :: xs, y :: ys => .tup [x, y] :: zipL xs ys
  | _, _ => []

mutual
def ev (G : Nat → D) (C : CallS) : ME → Loc → Option (R × Loc)
  | .c d, loc => some (.val d, loc)
  | .g k, loc => some (.val (G k), loc)
  | .v i, loc => match loc[i]? with
    | some (.dat d) => some (.val d, loc)
    | _ => none
  | .r i, loc => match loc[i]? with
    | some (.own _ _) => some (.ref i, loc)
    | some (.scr _) => some (.ref i, loc)
    | some (.dat d) => some (.val d, loc)
    | _ => none
  | .fz i, loc => match loc[i]? with
    | some (.own false ds) => some (.val (.lst ds), loc.set i (.dat (.lst ds)))
    | some (.dat d) => some (.val d, loc)
    | _ => none
  | .tup es, loc => match evs G C es loc with
    | some (rs, l1) => match rs.mapM toVal with
      | some ds => some (.val (.tup ds), l1)
      | none => none
    | none => none
  | .lst es, loc => match evs G C es loc with
    | some (rs, l1) => match rs.mapM toVal with
      | some ds => some (.new ds, l1)
      | none => none
    | none => none
  | .o1 o a, loc => match ev G C a loc with
    | some (r, l1) => match res l1 r with
      | some d => match ap1 o d with
        | some r' => some (r', l1)
        | none => none
      | none => none
    | none => none
  | .o2 o a b, loc => match ev G C a loc with
    | some (r, l1) => match ev G C b l1 with
      | some (r', l2) => match res l2 (sett r), res l2 r' with
        | some d, some e => match ap2 o d e with
          | some r'' => some (r'', l2)
          | none => none
        | _, _ => none
      | none => none
    | none => none
  | .ch o o' a b c, loc => match ev G C a loc with
    | some (ra, l1) => match ev G C b l1 with
      | some (rb, l2) => match res l2 (sett ra), res l2 rb with
        | some d, some e => match ap2 o d e with
          | some (.val (.bl true)) => match ev G C c l2 with
            | some (rc, l3) => match res l3 (sett rb), res l3 rc with
              | some e', some f => match ap2 o' e' f with
                | some (.val (.bl k)) => some (.val (.bl k), l3)
                | _ => none
              | _, _ => none
            | none => none
          | some (.val (.bl false)) => some (.val (.bl false), l2)
          | _ => none
        | _, _ => none
      | none => none
    | none => none
  | .sl a lo hi, loc => match ev G C a loc with
    | some (r, l1) => match evo G C lo l1 with
      | some (x, l2) => match evo G C hi l2 with
        | some (y, l3) => match res l3 (sett r) with
          | some d => match apSl d x y with
            | some r' => some (r', l3)
            | none => none
          | none => none
        | none => none
      | none => none
    | none => none
  | .and a b, loc => match ev G C a loc with
    | some (r, l1) => match res l1 r with
      | some d => match truth d with
        | some true => ev G C b l1
        | some false => some (sett r, l1)
        | none => none
      | none => none
    | none => none
  | .or a b, loc => match ev G C a loc with
    | some (r, l1) => match res l1 r with
      | some d => match truth d with
        | some true => some (sett r, l1)
        | some false => ev G C b l1
        | none => none
      | none => none
    | none => none
  | .not a, loc => match ev G C a loc with
    | some (r, l1) => match res l1 r with
      | some d => match truth d with
        | some k => some (.val (.bl (!k)), l1)
        | none => none
      | none => none
    | none => none
  | .ite c a b, loc => match ev G C c loc with
    | some (r, l1) => match res l1 r with
      | some d => match truth d with
        | some true => ev G C a l1
        | some false => ev G C b l1
        | none => none
      | none => none
    | none => none
  | .call f as, loc => match evs G C as loc with
    | some (rs, l1) => doCall C f rs l1
    | none => none
  | .callK f as ks p, loc => match evs G C as loc with
    | some (rs, l1) => match evs G C ks l1 with
      | some (ss, l2) => match perm p (rs ++ ss) with
        | some ts => doCall C f ts l2
        | none => none
      | none => none
    | none => none
  | .lc own p it cs elt, loc => match evI G C it loc with
    | some (items, l1) => if own.all (freeD l1) && decide (items.length ≤ big) then
        match lcRun own p (evC G C cs) (ev G C elt) items (wipeL l1 own) with
        | some (ds, l2) => some (.new ds, back l1 l2 own)
        | none => none
      else none
    | none => none
  | .app i e, loc => match loc[i]? with
    | some (.own _ _) => match ev G C e loc with
      | some (r, l1) => match toVal r, l1[i]? with
        | some d, some (.own b ds) => if ds.length < big then some (.val .non, l1.set i (.own b (ds ++ [d]))) else none
        | _, _ => none
      | none => none
    | _ => none
  | .pop i, loc => match loc[i]? with
    | some (.own b ds) => match ds.getLast? with
      | some d => some (.val d, loc.set i (.own b ds.dropLast))
      | none => none
    | _ => none
  | .popAt i e, loc => match loc[i]? with
    | some (.own _ _) => match ev G C e loc with
      | some (.val (.int k), l1) => match l1[i]? with
        | some (.own b ds) => if 0 ≤ k ∧ k < 2 ^ 62 then match ds[k.toNat]? with
          | some d => some (.val d, l1.set i (.own b (ds.eraseIdx k.toNat)))
          | none => none
          else none
        | _ => none
      | _ => none
    | _ => none
  | .clear i, loc => match loc[i]? with
    | some (.own b ds) => some (.val .non, loc.set i (.own b []))
    | _ => none
  | .ext i e, loc => match loc[i]? with
    | some (.own _ _) => match ev G C e loc with
      | some (r, l1) => match toVal r, l1[i]? with
        | some (.lst es), some (.own b ds) => if ds.length + es.length ≤ big then some (.val .non, l1.set i (.own b (ds ++ es))) else none
        | _, _ => none
      | none => none
    | _ => none
  | .sIx i e, loc => match loc[i]? with
    | some (.scr ns) => match ev G C e loc with
      | some (.val (.int k), l1) => if 0 ≤ k then match ns[k.toNat]? with
        | some n => some (.val (.int n), l1)
        | none => none
        else none
      | _ => none
    | _ => none
  | .sLen i, loc => match loc[i]? with
    | some (.scr ns) => some (.val (.int ns.length), loc)
    | _ => none
  | .sSl i lo hi, loc => match loc[i]? with
    | some (.scr ns) => match evo G C lo loc with
      | some (x, l1) => match evo G C hi l1 with
        | some (y, l2) => some (.new (cutD (ns.map D.int) x y), l2)
        | none => none
      | none => none
    | _ => none
def evs (G : Nat → D) (C : CallS) : List ME → Loc → Option (List R × Loc)
  | [], loc => some ([], loc)
  | e :: es, loc => match ev G C e loc with
    | some (r, l1) => match evs G C es l1 with
      | some (rs, l2) => some (sett r :: rs, l2)
      | none => none
    | none => none
def evo (G : Nat → D) (C : CallS) : Option ME → Loc → Option (Option Int × Loc)
  | none, loc => some (none, loc)
  | some e, loc => match ev G C e loc with
    | some (.val (.int i), l1) => some (some i, l1)
    | _ => none
def evC (G : Nat → D) (C : CallS) : List ME → Loc → Option (Bool × Loc)
  | [], loc => some (true, loc)
  | e :: es, loc => match ev G C e loc with
    | some (r, l1) => match res l1 r with
      | some d => match truth d with
        | some true => evC G C es l1
        | some false => some (false, l1)
        | none => none
      | none => none
    | none => none
def evI (G : Nat → D) (C : CallS) : IT → Loc → Option (List D × Loc)
  | .seq a, loc => match ev G C a loc with
    | some (r, l1) => match toVal r with
      | some (.lst ds) => some (ds, l1)
      | _ => none
    | none => none
  | .tpl a, loc => match ev G C a loc with
    | some (r, l1) => match toVal r with
      | some (.tup ds) => some (ds, l1)
      | _ => none
    | none => none
  | .rng1 a, loc => match ev G C a loc with
    | some (r, l1) => match r with
      | .val (.int n) => if small n then some (rngL 0 n.toNat, l1) else none
      | _ => none
    | none => none
  | .rng2 a b, loc => match ev G C a loc with
    | some (r, l1) => match ev G C b l1 with
      | some (r', l2) => match r, r' with
        | .val (.int m), .val (.int n) => if small m && small n then some (rngL m (n - m).toNat, l2) else none
        | _, _ => none
      | none => none
    | none => none
  | .enum a, loc => match ev G C a loc with
    | some (r, l1) => match toVal r with
      | some (.lst ds) => some (enumL 0 ds, l1)
      | _ => none
    | none => none
  | .zip a b, loc => match ev G C a loc with
    | some (r, l1) => match ev G C b l1 with
      | some (r', l2) => match toVal r, toVal r' with
        | some (.lst ds), some (.lst es) => some (zipL ds es, l2)
        | _, _ => none
      | none => none
    | none => none
end
def evT (G : Nat → D) (C : CallS) (m : ME) (loc : Loc) : Option (Bool × Loc) := match ev G C m loc with
  | some (r, l1) => match res l1 r with
    | some d => match truth d with
      | some k => some (k, l1)
      | none => none
    | none => none
  | none => none

/-! ### statements -/
inductive MS where
  | set (p : Pat) (e : ME)
  | own (i : Nat) (e : ME)
  | par (i j : Nat) (a b : ME)
  | aug (i : Nat) (o : O2) (e : ME)
  | ex (e : ME)
  | ret (e : ME)
  | retN
  | ite (c : ME) (t f : List MS)
  | loop (p : Pat) (it : IT) (b : List MS)
  | wh (c : ME) (b : List MS)
  | put (i : Nat) (k e : ME)
  | pass
  | brk
  | cont
inductive Out where
  | nx (loc : Loc)
  | rt (r : R) (loc : Loc)
  | bk (loc : Loc)
  | ct (loc : Loc)
def forRun (p : Pat) (body : Loc → Option Out) : List D → Loc → Option Out
  | [], loc => some (.nx loc)
  | d :: ds, loc => match bindP p d loc with
    | none => none
    | some l1 => match body l1 with
      | some (.nx l2) => forRun p body ds l2
      | some (.ct l2) => forRun p body ds l2
      | some (.bk l2) => some (.nx l2)
      | some (.rt r l2) => some (.rt r l2)
      | none => none
def whRun (c : Loc → Option (Bool × Loc)) (body : Loc → Option Out) : Nat → Loc → Option Out
  | 0, _ => none
  | n + 1, loc => match c loc with
    | some (true, l1) => match body l1 with
      | some (.nx l2) => whRun c body n l2
      | some (.ct l2) => whRun c body n l2
      | some (.bk l2) => some (.nx l2)
      | some (.rt r l2) => some (.rt r l2)
      | none => none
    | some (false, l1) => some (.nx l1)
    | none => none
mutual
def sx (G : Nat → D) (C : CallS) (F : Nat) : MS → Loc → Option Out
  | .set p e, loc => match ev G C e loc with
    | some (r, l1) => match toVal r with
      | some d => (bindP p d l1).map .nx
      | none => none
    | none => none
  | .own i e, loc => match ev G C e loc with
    | some (.new ds, l1) => (put l1 i (.own false ds)).map .nx
    | _ => none
  | .par i j a b, loc => match ev G C a loc with
    | some (r, l1) => match ev G C b l1 with
      | some (r', l2) => match toVal r, toVal r' with
        | some d, some e => match put l2 i (.dat d) with
          | some l3 => (put l3 j (.dat e)).map .nx
          | none => none
        | _, _ => none
      | none => none
    | none => none
  | .aug i o e, loc => match loc[i]? with
    | some (.dat d) => match ev G C e loc with
      | some (r, l1) => match d, toVal r with
        | .int x, some (.int y) => match o with
          | .add => (put l1 i (.dat (.int (x + y)))).map .nx
          | .sub => (put l1 i (.dat (.int (x - y)))).map .nx
          | _ => none
        | _, _ => none
      | none => none
    | _ => none
  | .ex e, loc => match ev G C e loc with
    | some (_, l1) => some (.nx l1)
    | none => none
  | .ret e, loc => match ev G C e loc with
    | some (r, l1) => match r with
      | .ref _ => none
      | r => some (.rt r l1)
    | none => none
  | .retN, loc => some (.rt (.val .non) loc)
  | .ite c t f, loc => match evT G C c loc with
    | some (true, l1) => sxs G C F t l1
    | some (false, l1) => sxs G C F f l1
    | none => none
  | .loop p it b, loc => match evI G C it loc with
    | some (items, l1) => forRun p (sxs G C F b) items l1
    | none => none
  | .wh c b, loc => whRun (evT G C c) (sxs G C F b) F loc
  | .put i k e, loc => match ev G C e loc with
    | some (r, l1) => match l1[i]? with
      | some (.own _ _) => match ev G C k l1 with
        | some (.val (.int n), l2) => match toVal r, l2[i]? with
          | some d, some (.own b ds) => if 0 ≤ n ∧ n < ds.length then some (.nx (l2.set i (.own b (ds.set n.toNat d)))) else none
          | _, _ => none
        | _ => none
      | _ => none
    | none => none
  | .pass, loc => some (.nx loc)
  | .brk, loc => some (.bk loc)
  | .cont, loc => some (.ct loc)
def sxs (G : Nat → D) (C : CallS) (F : Nat) : List MS → Loc → Option Out
  | [], loc => some (.nx loc)
  | s :: ss, loc => match sx G C F s loc with
    | some (.nx l1) => sxs G C F ss l1
    | o => o
end

/-! ### defs -/
structure FD where
  arity : Nat
  slots : Nat
  body : List MS
/-- the lent lists behind a body -/
def lent : Loc → Loc → Option Loc
  | [], _ => some []
  | .own b _ :: a, l => match b, l with
    | true, .own true ds :: l' => match lent a l' with
      | some r => some (.own true ds :: r)
      | none => none
    | _, _ => none
  | s :: a, l => match l with
    | _ :: l' => match lent a l' with
      | some r => some (s :: r)
      | none => none
    | [] => none
def runFD (G : Nat → D) (C : CallS) (F : Nat) (d : FD) (a : Loc) : Option (R × Loc) :=
  if a.length = d.arity then
    match sxs G C F d.body (a ++ List.replicate (d.slots - d.arity) .none) with
    | some (.rt r l) => match lent a l with
      | some a' => some (r, a')
      | none => none
    | some (.nx l) => match lent a l with
      | some a' => some (.val .non, a')
      | none => none
    | _ => none
  else none
def callN (G : Nat → D) (T : List FD) (F : Nat) : Nat → CallS
  | 0, _, _ => none
  | n + 1, f, a => match T[f]? with
    | some d => runFD G (callN G T F n) F d a
    | none => none
end MP

namespace MP
open PySem PySem.Spec PyProof.Rows L2

variable {P : RP} {L L' : Addr → Prop} {H H' : Hp}
/-- the value of an operand: a list may be one that still changes -/
def RepW (P : RP) (L : Addr → Prop) (H : Hp) : D → V → Prop
  | .lst ds, v => ∃ a vs, v = .ref a ∧ H a = some (.lst vs) ∧ Reps P L H ds vs
  | d, v => Rep P L H d v
theorem Rep.w {d : D} {v : V} (h : Rep P L H d v) : RepW P L H d v := by
  cases d with
  | lst ds =>
    unfold Rep at h
    obtain ⟨a, vs, e, t, _, r⟩ := h
    exact ⟨a, vs, e, t, r⟩
  | _ => exact h
def OpPost (P : RP) (L : Addr → Prop) (H : Hp) : R → V → Hp → Prop
  | .val d, v, H' => Same H H' ∧ Rep P L H' d v
  | .new ds, v, H' => ∃ p vs, v = .ref p ∧ H p = none ∧ H' = upd H p (.lst vs) ∧ Reps P L H ds vs
  | .ref _, _, _ => False
theorem OpPost.val {d : D} {v : V} (h : Rep P L H d v) : OpPost P L H (.val d) v H := ⟨Same.refl H, h⟩
theorem OpPost.tup {ds : List D} {vs : List V} {p : Addr} (hL : ∀ b, L b → ∃ o, H b = some o) (hp : H p = none) (h : Reps P L H ds vs) : OpPost P L H (.val (.tup ds)) (.ref p) (upd H p (.tup vs)) := by
  refine ⟨same_upd hp, ?_⟩
  unfold Rep
  refine ⟨p, vs, rfl, .inl ⟨upd_same, fun z => ?_⟩, Reps.same (same_upd hp) h⟩
  obtain ⟨o, e⟩ := hL p z
  rw [hp] at e; cases e
theorem OpPost.lst {ds : List D} {vs : List V} {p : Addr} (hp : H p = none) (h : Reps P L H ds vs) : OpPost P L H (.new ds) (.ref p) (upd H p (.lst vs)) :=
  ⟨p, vs, rfl, hp, rfl, h⟩

/-- a two-place operation by data -/
def rD2 (P : RP) (f : D → D → Option R) : R2 := fun x y H Q => ∃ (L : Addr → Prop) (d e : D) (r : R), (∀ b, L b → ∃ o, H b = some o) ∧ RepW P L H d x ∧ RepW P L H e y ∧ f d e = some r ∧ ∀ v H', OpPost P L H r v H' → Q v H'
def rD1 (P : RP) (f : D → Option R) : V → Hp → VK → Prop := fun x H Q => ∃ (L : Addr → Prop) (d : D) (r : R), (∀ b, L b → ∃ o, H b = some o) ∧ RepW P L H d x ∧ f d = some r ∧ ∀ v H', OpPost P L H r v H' → Q v H'

theorem big_line {n : Nat} (h : n ≤ big) : n ≤ sizeLine := Nat.le_trans h (by rw [sizeLine_eq]; decide)
theorem big_lt {n : Nat} (h : n < big) : n < sizeLine := Nat.lt_of_lt_of_le h (by rw [sizeLine_eq]; decide)

/-! ### data compared -/
mutual
def toPy : D → PyData
  | .non => .none
  | .bl b => .bool b
  | .int i => .int i
  | .str x => .str x
  | .tup ds => .tuple (toPys ds)
  | .lst ds => .list (toPys ds)
  | .ins _ _ => .none
def toPys : List D → List PyData
  | [] => []
  | d :: ds => toPy d :: toPys ds
end
mutual
theorem plain_lay : ∀ (n : Nat) (d : D), D.plain n d = true → (toPy d).canLay0 = true ∧ (toPy d).depth ≤ n
  | _, .non, _ => ⟨by simp [toPy, PyData.canLay0], by simp [toPy, PyData.depth]⟩
  | _, .bl _, _ => ⟨by simp [toPy, PyData.canLay0], by simp [toPy, PyData.depth]⟩
  | _, .int _, _ => ⟨by simp [toPy, PyData.canLay0], by simp [toPy, PyData.depth]⟩
  | _, .str x, h => ⟨by simpa [toPy, PyData.canLay0, D.plain] using h, by simp [toPy, PyData.depth]⟩
  | 0, .tup ds, h => by simp [D.plain] at h
  | n + 1, .tup ds, h => by
    have := plains_lay n ds (by simpa [D.plain] using h)
    simp only [toPy, PyData.canLay0, PyData.depth]
    exact ⟨this.1, by omega⟩
  | 0, .lst ds, h => by simp [D.plain] at h
  | n + 1, .lst ds, h => by
    have := plains_lay n ds (by simpa [D.plain] using h)
    simp only [toPy, PyData.canLay0, PyData.depth]
    exact ⟨this.1, by omega⟩
  | n, .ins _ _, h => by simp [D.plain] at h
theorem plains_lay : ∀ (n : Nat) (ds : List D), D.plains n ds = true → PyData.canLayAll0 (toPys ds) = true ∧ PyData.depthAll (toPys ds) ≤ n
  | _, [], _ => ⟨by simp [toPys, PyData.canLayAll0], by simp [toPys, PyData.depthAll]⟩
  | n, d :: ds, h => by
    have h' : D.plain n d = true ∧ D.plains n ds = true := by simpa [D.plains] using h
    have h1 := plain_lay n d h'.1
    have h2 := plains_lay n ds h'.2
    simp only [toPys, PyData.canLayAll0, PyData.depthAll]
    exact ⟨by simp [h1.1, h2.1], by omega⟩
end
theorem plain_shaped {d : D} (h : D.plain 8 d = true) : SeqAt.shaped (toPy d) = true := by
  have := plain_lay 8 d h
  unfold SeqAt.shaped
  rw [Bool.and_eq_true]
  exact ⟨this.1, decide_eq_true (by omega)⟩
mutual
theorem rep_dp : ∀ (n : Nat) (d : D) (v : V), D.plain n d = true → Rep P L H d v → Dp P.K H v (toPy d)
  | _, .non, v, _, h => by unfold Rep at h; subst h; exact Dp.non
  | _, .bl _, v, _, h => by unfold Rep at h; subst h; exact Dp.bl _
  | _, .int _, v, _, h => by unfold Rep at h; subst h; exact Dp.int _
  | _, .str _, v, _, h => by unfold Rep at h; subst h; exact Dp.str _
  | 0, .tup ds, _, h, _ => by simp [D.plain] at h
  | n + 1, .tup ds, v, hp, h => by
    unfold Rep at h
    obtain ⟨a, vs, rfl, t, r⟩ := h
    simp only [toPy]
    exact Dp.tup t.sq (reps_dp n ds vs (by simpa [D.plain] using hp) r)
  | 0, .lst ds, _, h, _ => by simp [D.plain] at h
  | n + 1, .lst ds, v, hp, h => by
    unfold Rep at h
    obtain ⟨a, vs, rfl, t, _, r⟩ := h
    simp only [toPy]
    exact Dp.lst (SqL.of t) (reps_dp n ds vs (by simpa [D.plain] using hp) r)
  | n, .ins _ _, _, h, _ => by simp [D.plain] at h
theorem reps_dp : ∀ (n : Nat) (ds : List D) (vs : List V), D.plains n ds = true → Reps P L H ds vs → DpAll P.K H vs (toPys ds)
  | _, [], vs, _, h => by unfold Reps at h; subst h; exact DpAll.nil
  | n, d :: ds, vs, hp, h => by
    have h' : D.plain n d = true ∧ D.plains n ds = true := by simpa [D.plains] using hp
    unfold Reps at h
    obtain ⟨v, r, rfl, h1, h2⟩ := h
    simp only [toPys]
    exact DpAll.cons (rep_dp n d v h'.1 h1) (reps_dp n ds r h'.2 h2)
end
theorem repw_dp {d : D} {v : V} (hp : D.plain 8 d = true) (h : RepW P L H d v) : Dp P.K H v (toPy d) := by
  cases d with
  | lst ds =>
    obtain ⟨a, vs, rfl, t, r⟩ := h
    simp only [toPy]
    exact Dp.lst (SqL.of t) (reps_dp 7 ds vs (by simpa [D.plain] using hp) r)
  | _ => exact rep_dp (L := L) 8 _ v hp h
mutual
theorem beq_eqv : ∀ (n m : Nat) (d e : D), D.plain n d = true → D.plain m e = true → D.beq d e = PyData.eqv (toPy d) (toPy e)
  | _, _, .non, e, _, he => by cases e <;> simp_all [D.beq, toPy, PyData.eqv, D.plain]
  | _, _, .bl a, e, _, he => by cases e <;> simp_all [D.beq, toPy, PyData.eqv, D.plain]
  | _, _, .int a, e, _, he => by cases e <;> simp_all [D.beq, toPy, PyData.eqv, D.plain]
  | _, _, .str a, e, _, he => by
    cases e <;> simp_all [D.beq, toPy, PyData.eqv, D.plain]
    rw [Bool.eq_iff_iff]; simp
  | 0, _, .tup ds, _, h, _ => by simp [D.plain] at h
  | n + 1, m, .tup ds, e, h, he => by
    cases e with
    | tup es =>
      cases m with
      | zero => simp [D.plain] at he
      | succ m =>
        simp only [D.beq, toPy, PyData.eqv]
        exact beqs_eqv n m ds es (by simpa [D.plain] using h) (by simpa [D.plain] using he)
    | ins _ _ => simp [D.plain] at he
    | _ => simp_all [D.beq, toPy, PyData.eqv, D.plain]
  | 0, _, .lst ds, _, h, _ => by simp [D.plain] at h
  | n + 1, m, .lst ds, e, h, he => by
    cases e with
    | lst es =>
      cases m with
      | zero => simp [D.plain] at he
      | succ m =>
        simp only [D.beq, toPy, PyData.eqv]
        exact beqs_eqv n m ds es (by simpa [D.plain] using h) (by simpa [D.plain] using he)
    | ins _ _ => simp [D.plain] at he
    | _ => simp_all [D.beq, toPy, PyData.eqv, D.plain]
  | _, _, .ins _ _, _, h, _ => by simp [D.plain] at h
theorem beqs_eqv : ∀ (n m : Nat) (d e : List D), D.plains n d = true → D.plains m e = true → D.beqs d e = PyData.eqvAll (toPys d) (toPys e)
  | _, _, [], e, _, _ => by cases e <;> simp [D.beqs, toPys, PyData.eqvAll]
  | n, m, d :: ds, e, h, he => by
    cases e with
    | nil => simp [D.beqs, toPys, PyData.eqvAll]
    | cons e es =>
      have h1 : D.plain n d = true ∧ D.plains n ds = true := by simpa [D.plains] using h
      have h2 : D.plain m e = true ∧ D.plains m es = true := by simpa [D.plains] using he
      simp only [D.beqs, toPys, PyData.eqvAll]
      rw [beq_eqv n m d e h1.1 h2.1, beqs_eqv n m ds es h1.2 h2.2]
end
theorem any_eqv (n m : Nat) (d : D) (hd : D.plain m d = true) : ∀ (ds : List D), D.plains n ds = true → (ds.any fun y => D.beq y d) = (toPys ds).any fun z => PyData.eqv z (toPy d)
  | [], _ => by simp [toPys]
  | e :: es, h => by
    have h1 : D.plain n e = true ∧ D.plains n es = true := by simpa [D.plains] using h
    simp only [toPys, List.any_cons]
    rw [any_eqv n m d hd es h1.2, beq_eqv n m e d h1.1 hd]

theorem int_of {v : V} {i : Int} (h : RepW P L H (.int i) v) : v = .int i := by
  have : Rep P L H (.int i) v := h
  unfold Rep at this; exact this
theorem bl_of {v : V} {i : Bool} (h : RepW P L H (.bl i) v) : v = .bl i := by
  have : Rep P L H (.bl i) v := h
  unfold Rep at this; exact this
theorem non_of {v : V} (h : RepW P L H .non v) : v = .non := by
  have : Rep P L H .non v := h
  unfold Rep at this; exact this
theorem tup_of {v : V} {ds : List D} (h : RepW P L H (.tup ds) v) : ∃ a vs, v = .ref a ∧ TupAt P.K L H a vs ∧ Reps P L H ds vs := by
  have : Rep P L H (.tup ds) v := h
  unfold Rep at this; exact this
theorem rep_int {i : Int} : Rep P L H (.int i) (.int i) := by unfold Rep; rfl
theorem rep_bl {i : Bool} : Rep P L H (.bl i) (.bl i) := by unfold Rep; rfl
theorem rep_non : Rep P L H .non .non := by unfold Rep; rfl

/-! ### the operators -/
section
variable {X : Cx} {k : Nat}
theorem d_add (hK : P.K = X.K) : OpR X (binaryOp .Add) (rD2 P (ap2 .add)) := by
  intro pins s σ H x y v u Q I rx ry h
  obtain ⟨L, d, e, r, hL, hd, he, hf, q⟩ := h
  cases d with
  | int i =>
    cases e with
    | int j =>
      have hf : some (R.val (.int (i + j))) = some r := hf
      cases hf
      exact op_add pins s σ H x y v u Q I rx ry ⟨i, j, int_of hd, int_of he, q _ _ (.val rep_int)⟩
    | _ => exact nomatch hf
  | tup ds =>
    cases e with
    | tup es =>
      obtain ⟨a, xs, rfl, ta, ra⟩ := tup_of hd
      obtain ⟨b, ys, rfl, tb, rb⟩ := tup_of he
      have hf : (if ds.length + es.length ≤ big then some (R.val (.tup (ds ++ es))) else none) = some r := hf
      split at hf
      · rename_i hb
        cases hf
        rw [ra.length, rb.length] at hb
        refine op_catA pins s σ H _ _ v u Q I rx ry ⟨a, b, xs, ys, rfl, rfl, hK ▸ ta.sq, hK ▸ tb.sq, big_line hb, fun e0 => ?_, fun _ e0 => ?_, fun _ _ p hp => ?_⟩
        · subst e0
          have : ds = [] := by have := ra.length; simpa using this
          subst this
          exact q _ _ (.val he)
        · subst e0
          have : es = [] := by have := rb.length; simpa using this
          subst this
          rw [List.append_nil] at q
          exact q _ _ (.val hd)
        · exact q _ _ (.tup hL hp (ra.append rb))
      · cases hf
    | _ => exact nomatch hf
  | lst ds =>
    cases e with
    | lst es =>
      obtain ⟨a, xs, rfl, ta, ra⟩ := hd
      obtain ⟨b, ys, rfl, tb, rb⟩ := he
      have hf : (if ds.length + es.length ≤ big then some (R.new (ds ++ es)) else none) = some r := hf
      split at hf
      · rename_i hb
        cases hf
        rw [ra.length, rb.length] at hb
        exact op_cat pins s σ H _ _ v u Q I rx ry ⟨a, b, xs, ys, rfl, rfl, ta, tb, big_line hb, fun p hp => q _ _ (.lst hp (ra.append rb))⟩
      · cases hf
    | _ => exact nomatch hf
  | _ => exact nomatch hf
theorem d_int2 {op : Operator} {C : Int → Int → Prop} {g : Int → Int → Int} {f : D → D → Option R} (ho : OpR X (binaryOp op) (rI C fun i j => .int (g i j)))
    (hf : ∀ d e r, f d e = some r → ∃ i j, d = .int i ∧ e = .int j ∧ C i j ∧ r = .val (.int (g i j))) : OpR X (binaryOp op) (rD2 P f) := by
  intro pins s σ H x y v u Q I rx ry h
  obtain ⟨L, d, e, r, hL, hd, he, hr, q⟩ := h
  obtain ⟨i, j, rfl, rfl, c, rfl⟩ := hf d e r hr
  exact ho pins s σ H x y v u Q I rx ry ⟨i, j, int_of hd, int_of he, c, q _ _ (.val rep_int)⟩
theorem rI0_of {f : Value → Value → Sem Value} {g : Int → Int → V} (h : OpR X f (rI0 g)) : OpR X f (rI (fun _ _ => True) g) := by
  intro pins s σ H x y v u Q I rx ry hq
  obtain ⟨i, j, e1, e2, _, q⟩ := hq
  exact h pins s σ H x y v u Q I rx ry ⟨i, j, e1, e2, q⟩
theorem d_sub : OpR X (binaryOp .Sub) (rD2 P (ap2 .sub)) := by
  refine d_int2 (rI0_of op_sub) fun d e r h => ?_
  cases d <;> cases e <;> first | (cases h; exact ⟨_, _, rfl, rfl, trivial, rfl⟩) | exact nomatch h
theorem op_mulA : OpR X (binaryOp .Mult) (rI (fun i j => mulOk i j = true) fun i j => .int (i * j)) := by
  intro pins s σ H x y v u Q I rx ry h
  obtain ⟨i, j, e1, e2, c, q⟩ := h
  unfold mulOk at c
  simp only [Bool.or_eq_true, Bool.and_eq_true, decide_eq_true_eq] at c
  rcases c with (c | c) | c
  · exact op_mul pins s σ H x y v u Q I rx ry ⟨i, j, e1, e2, .inl c, q⟩
  · exact op_mul pins s σ H x y v u Q I rx ry ⟨i, j, e1, e2, .inr c, q⟩
  · exact op_mulW pins s σ H x y v u Q I rx ry ⟨i, j, e1, e2, c, q⟩
theorem Reps.rep {ds : List D} {vs : List V} (h : Reps P L H ds vs) : ∀ k : Nat, Reps P L H (List.replicate k ds).flatten (List.replicate k vs).flatten
  | 0 => Reps.nil
  | k + 1 => by simp only [List.replicate_succ, List.flatten_cons]; exact h.append (Reps.rep h k)
theorem d_mul : OpR X (binaryOp .Mult) (rD2 P (ap2 .mul)) := by
  intro pins s σ H x y v u Q I rx ry h
  obtain ⟨L, d, e, r, hL, hd, he, hf, q⟩ := h
  cases d with
  | int i =>
    cases e with
    | int j =>
      have hf : (if mulOk i j then some (R.val (.int (i * j))) else none) = some r := hf
      split at hf
      · rename_i hb
        cases hf
        exact op_mulA pins s σ H x y v u Q I rx ry ⟨i, j, int_of hd, int_of he, hb, q _ _ (.val rep_int)⟩
      · cases hf
    | _ => exact nomatch hf
  | lst ds =>
    cases e with
    | int k =>
      obtain ⟨a, xs, rfl, ta, ra⟩ := hd
      have hf : (if 0 ≤ k ∧ k ≤ big ∧ ds.length * k.toNat ≤ big then some (R.new (List.replicate k.toNat ds).flatten) else none) = some r := hf
      split at hf
      · rename_i hb
        cases hf
        obtain ⟨h0, h1, h2⟩ := hb
        rw [ra.length] at h2
        have hbig : (big : Int) = 1000000 := rfl
        exact op_rep pins s σ H _ _ v u Q I rx ry ⟨a, k, xs, rfl, int_of he, ta, by omega, by omega, big_line h2, fun p hp => q _ _ (.lst hp (ra.rep _))⟩
      · cases hf
    | _ => exact nomatch hf
  | _ => exact nomatch hf
theorem d_fdiv : OpR X (binaryOp .FloorDiv) (rD2 P (ap2 .fdiv)) := by
  refine d_int2 op_fdivW fun d e r h => ?_
  cases d <;> cases e <;> first | (exfalso; revert h; simp [ap2]; done) | skip
  rename_i i j
  have h : (if fdivOk j then some (R.val (.int (i / j))) else none) = some r := h
  split at h
  · rename_i c
    cases h
    unfold fdivOk at c
    simp only [Bool.and_eq_true, decide_eq_true_eq] at c
    exact ⟨i, j, rfl, rfl, c, rfl⟩
  · cases h
theorem d_mod : OpR X (binaryOp .Mod) (rD2 P (ap2 .mod)) := by
  refine d_int2 op_mod fun d e r h => ?_
  cases d <;> cases e <;> first | (exfalso; revert h; simp [ap2]; done) | skip
  rename_i i j
  have h : (if 0 < j then some (R.val (.int (i % j))) else none) = some r := h
  split at h
  · rename_i c
    cases h
    exact ⟨i, j, rfl, rfl, c, rfl⟩
  · cases h
theorem powOk_C {i j : Int} (h : powOk i j = true) : CPow i j := by
  unfold powOk at h
  simp only [Bool.and_eq_true, decide_eq_true_eq] at h
  exact ⟨h.1.1, h.1.2, h.2⟩
theorem d_pow : OpR X (binaryOp .Pow) (rD2 P (ap2 .pow)) := by
  refine d_int2 op_pow fun d e r h => ?_
  cases d <;> cases e <;> first | (exfalso; revert h; simp [ap2]; done) | skip
  rename_i i j
  have h : (if powOk i j then some (R.val (.int (i ^ j.toNat))) else none) = some r := h
  split at h
  · rename_i c
    cases h
    exact ⟨i, j, rfl, rfl, powOk_C c, rfl⟩
  · cases h
theorem d_shl : OpR X (binaryOp .LShift) (rD2 P (ap2 .shl)) := by
  refine d_int2 op_shl fun d e r h => ?_
  cases d <;> cases e <;> first | (exfalso; revert h; simp [ap2]; done) | skip
  rename_i i j
  have h : (if powOk i j then some (R.val (.int (i * 2 ^ j.toNat))) else none) = some r := h
  split at h
  · rename_i c
    cases h
    exact ⟨i, j, rfl, rfl, powOk_C c, rfl⟩
  · cases h
theorem d_shr : OpR X (binaryOp .RShift) (rD2 P (ap2 .shr)) := by
  refine d_int2 op_shr fun d e r h => ?_
  cases d <;> cases e <;> first | (exfalso; revert h; simp [ap2]; done) | skip
  rename_i i j
  have h : (if 0 ≤ j then some (R.val (.int (i / 2 ^ j.toNat))) else none) = some r := h
  split at h
  · rename_i c
    cases h
    exact ⟨i, j, rfl, rfl, c, rfl⟩
  · cases h
theorem d_band : OpR X (binaryOp .BitAnd) (rD2 P (ap2 .band)) := by
  refine d_int2 (rI0_of op_and) fun d e r h => ?_
  cases d <;> cases e <;> first | (cases h; exact ⟨_, _, rfl, rfl, trivial, rfl⟩) | exact nomatch h
def binOf : O2 → Option Operator
  | .add => some .Add | .sub => some .Sub | .mul => some .Mult | .fdiv => some .FloorDiv | .mod => some .Mod | .pow => some .Pow
  | .shl => some .LShift | .shr => some .RShift | .band => some .BitAnd
  | _ => none
theorem d_bin (hK : P.K = X.K) {o : O2} {op : Operator} (h : binOf o = some op) : OpR X (binaryOp op) (rD2 P (ap2 o)) := by
  cases o <;> simp only [binOf, reduceCtorEq, Option.some.injEq] at h <;> subst h
  · exact d_add hK
  · exact d_sub
  · exact d_mul
  · exact d_fdiv
  · exact d_mod
  · exact d_pow
  · exact d_shl
  · exact d_shr
  · exact d_band

/-! comparisons -/
theorem d_eq (hK : P.K = X.K) (hu : X.A.units + 64 < cLine) : OpR X (compareOp .Eq) (rD2 P (ap2 .eq)) := by
  intro pins s σ H x y v u Q I rx ry h
  obtain ⟨L, d, e, r, hL, hd, he, hf, q⟩ := h
  have hf : (if D.plain 8 d && D.plain 8 e then some (R.val (.bl (D.beq d e))) else none) = some r := by simpa [ap2] using hf
  split at hf
  · rename_i c
    cases hf
    rw [Bool.and_eq_true] at c
    refine op_eqD hu pins s σ H x y v u Q I rx ry ⟨toPy d, toPy e, hK ▸ repw_dp c.1 hd, hK ▸ repw_dp c.2 he, plain_shaped c.1, plain_shaped c.2, ?_⟩
    rw [← beq_eqv 8 8 d e c.1 c.2]
    exact q _ _ (.val rep_bl)
  · cases hf
theorem d_ne (hK : P.K = X.K) (hu : X.A.units + 64 < cLine) : OpR X (compareOp .NotEq) (rD2 P (ap2 .ne)) := by
  intro pins s σ H x y v u Q I rx ry h
  obtain ⟨L, d, e, r, hL, hd, he, hf, q⟩ := h
  have hf : (if D.plain 8 d && D.plain 8 e then some (R.val (.bl (!D.beq d e))) else none) = some r := by simpa [ap2] using hf
  split at hf
  · rename_i c
    cases hf
    rw [Bool.and_eq_true] at c
    refine op_neD hu pins s σ H x y v u Q I rx ry ⟨toPy d, toPy e, hK ▸ repw_dp c.1 hd, hK ▸ repw_dp c.2 he, plain_shaped c.1, plain_shaped c.2, ?_⟩
    rw [← beq_eqv 8 8 d e c.1 c.2]
    exact q _ _ (.val rep_bl)
  · cases hf
theorem ltInts_spec : ∀ (xs ys : List D) (b : Bool), D.ltInts xs ys = some b → ∃ ns ms : List Int, xs = ns.map D.int ∧ ys = ms.map D.int ∧ HT.lexLt ns ms = b
  | [], [], b, h => by
    simp only [D.ltInts, Option.some.injEq] at h
    subst h
    exact ⟨[], [], rfl, rfl, rfl⟩
  | [], y :: ys, b, h => by
    cases y <;> simp only [D.ltInts, Option.map_eq_some_iff, reduceCtorEq] at h
    rename_i j
    obtain ⟨c, h1, rfl⟩ := h
    obtain ⟨ns, ms, e1, rfl, _⟩ := ltInts_spec [] ys c h1
    exact ⟨[], j :: ms, rfl, rfl, rfl⟩
  | x :: xs, [], b, h => by
    cases x <;> simp only [D.ltInts, Option.map_eq_some_iff, reduceCtorEq] at h
    rename_i j
    obtain ⟨c, h1, rfl⟩ := h
    obtain ⟨ns, ms, rfl, e1, _⟩ := ltInts_spec xs [] c h1
    exact ⟨j :: ns, [], rfl, rfl, rfl⟩
  | x :: xs, y :: ys, b, h => by
    cases x <;> cases y <;> simp only [D.ltInts, Option.map_eq_some_iff, reduceCtorEq] at h
    rename_i i j
    obtain ⟨c, h1, rfl⟩ := h
    obtain ⟨ns, ms, rfl, rfl, e⟩ := ltInts_spec xs ys c h1
    refine ⟨i :: ns, j :: ms, rfl, rfl, ?_⟩
    rw [HT.lexLt_cons, e]
theorem d_cmpI {op : CmpOp} {f : Int → Int → Bool} (ho : OpR X (compareOp op) (rI0 fun i j => .bl (f i j))) : OpR X (compareOp op) (rD2 P (cmpI f)) := by
  intro pins s σ H x y v u Q I rx ry h
  obtain ⟨L, d, e, r, hL, hd, he, hf, q⟩ := h
  cases d <;> cases e <;> first | (exfalso; revert hf; simp [cmpI]; done) | skip
  rename_i i j
  cases hf
  exact ho pins s σ H x y v u Q I rx ry ⟨i, j, int_of hd, int_of he, q _ _ (.val rep_bl)⟩
theorem d_lt (hK : P.K = X.K) (hu : X.A.units < cLine) : OpR X (compareOp .Lt) (rD2 P (ap2 .lt)) := by
  intro pins s σ H x y v u Q I rx ry h
  obtain ⟨L, d, e, r, hL, hd, he, hf, q⟩ := h
  cases d with
  | int i =>
    cases e with
    | int j =>
      cases hf
      exact op_lt pins s σ H x y v u Q I rx ry ⟨i, j, int_of hd, int_of he, q _ _ (.val rep_bl)⟩
    | _ => exact nomatch hf
  | tup ds =>
    cases e with
    | tup es =>
      have hf : ((D.ltInts ds es).map fun k => R.val (.bl k)) = some r := hf
      obtain ⟨b, hb, rfl⟩ := Option.map_eq_some_iff.mp hf
      obtain ⟨ns, ms, rfl, rfl, e⟩ := ltInts_spec ds es b hb
      obtain ⟨a, xs, rfl, ta, ra⟩ := tup_of hd
      obtain ⟨b', ys, rfl, tb, rb⟩ := tup_of he
      obtain rfl := ra.ints
      obtain rfl := rb.ints
      refine op_ltT hu pins s σ H _ _ v u Q I rx ry ⟨a, b', ns, ms, rfl, rfl, hK ▸ ta.sq, hK ▸ tb.sq, ?_⟩
      rw [e]
      exact q _ _ (.val rep_bl)
    | _ => exact nomatch hf
  | _ => exact nomatch hf
theorem in_tup (hu : X.A.units + 65 < cLine) {pins : List (Addr × Obj)} {s : Shared} {σ : Sg} {H : Hp} {x y : V} {v u : Value} {Q : VK} (I : Inv X pins σ H s) (rx : RelV x v) (ry : RelV y u) {d : PyData} {ds : List PyData} (hd : Dp X.K H x d) (he : Dp X.K H y (.tuple ds))
    (sd : SeqAt.shaped d = true) (se : SeqAt.shaped (.tuple ds) = true) (q : Q (.bl (ds.any fun z => PyData.eqv z d)) H) : wpAny (model X.prog X.w) X.A (compareOp .In v u) (EP X pins σ Q) X.xe s := by
  obtain ⟨as, r1⟩ := Dp.reads I d x v hd rx
  obtain ⟨bs, r2⟩ := Dp.reads I (.tuple ds) y u he ry
  exact SeqAt.in_tuple_reads r2 r1 (SeqAt.canLay_of_shaped se) (SeqAt.canLay_of_shaped sd) (room_in_shaped sd hu) ⟨.bl _, H, I, rfl, q⟩
theorem notIn_tup (hu : X.A.units + 65 < cLine) {pins : List (Addr × Obj)} {s : Shared} {σ : Sg} {H : Hp} {x y : V} {v u : Value} {Q : VK} (I : Inv X pins σ H s) (rx : RelV x v) (ry : RelV y u) {d : PyData} {ds : List PyData} (hd : Dp X.K H x d) (he : Dp X.K H y (.tuple ds))
    (sd : SeqAt.shaped d = true) (se : SeqAt.shaped (.tuple ds) = true) (q : Q (.bl (!ds.any fun z => PyData.eqv z d)) H) : wpAny (model X.prog X.w) X.A (compareOp .NotIn v u) (EP X pins σ Q) X.xe s := by
  obtain ⟨as, r1⟩ := Dp.reads I d x v hd rx
  obtain ⟨bs, r2⟩ := Dp.reads I (.tuple ds) y u he ry
  exact SeqAt.notIn_tuple_reads r2 r1 (SeqAt.canLay_of_shaped se) (SeqAt.canLay_of_shaped sd) (room_in_shaped sd hu) ⟨.bl _, H, I, rfl, q⟩
theorem shaped_seq {ds : List D} (h : D.plains 8 ds = true) : SeqAt.shaped (.tuple (toPys ds)) = true ∧ SeqAt.shaped (.list (toPys ds)) = true := by
  have := plains_lay 8 ds h
  have h1 : (PyData.tuple (toPys ds)).depth = PyData.depthAll (toPys ds) + 1 := by simp only [PyData.depth]
  have h2 : (PyData.list (toPys ds)).depth = PyData.depthAll (toPys ds) + 1 := by simp only [PyData.depth]
  have h3 : (PyData.tuple (toPys ds)).canLay0 = true := by simpa only [PyData.canLay0] using this.1
  have h4 : (PyData.list (toPys ds)).canLay0 = true := by simpa only [PyData.canLay0] using this.1
  unfold SeqAt.shaped
  rw [h1, h2, h3, h4, Bool.true_and]
  exact ⟨decide_eq_true (by omega), decide_eq_true (by omega)⟩
theorem d_in (hK : P.K = X.K) (hu : X.A.units + 65 < cLine) : OpR X (compareOp .In) (rD2 P (ap2 .isin)) := by
  intro pins s σ H x y v u Q I rx ry h
  obtain ⟨L, d, e, r, hL, hd, he, hf, q⟩ := h
  cases e <;> first | (simp [ap2] at hf; done) | skip
  all_goals
    rename_i ys
    have hf : (if D.plain 8 d && D.plains 8 ys then some (R.val (.bl (ys.any fun y => D.beq y d))) else none) = some r := by simpa [ap2] using hf
    split at hf
    · rename_i c
      cases hf
      rw [Bool.and_eq_true] at c
      rw [any_eqv 8 8 d c.1 ys c.2] at q
      first
        | exact in_tup hu I rx ry (hK ▸ repw_dp c.1 hd) (by
            obtain ⟨a, xs, rfl, ta, ra⟩ := tup_of he
            exact hK ▸ Dp.tup ta.sq (reps_dp 8 ys xs c.2 ra)) (plain_shaped c.1) (shaped_seq c.2).1 (q _ _ (.val rep_bl))
        | exact op_inD hu pins s σ H x y v u Q I rx ry ⟨toPy d, toPys ys, hK ▸ repw_dp c.1 hd, (by
            obtain ⟨a, xs, rfl, ta, ra⟩ := he
            exact hK ▸ Dp.lst (SqL.of ta) (reps_dp 8 ys xs c.2 ra)), plain_shaped c.1, (shaped_seq c.2).2, q _ _ (.val rep_bl)⟩
    · cases hf
theorem d_notin (hK : P.K = X.K) (hu : X.A.units + 65 < cLine) : OpR X (compareOp .NotIn) (rD2 P (ap2 .notin)) := by
  intro pins s σ H x y v u Q I rx ry h
  obtain ⟨L, d, e, r, hL, hd, he, hf, q⟩ := h
  cases e <;> first | (simp [ap2] at hf; done) | skip
  all_goals
    rename_i ys
    have hf : (if D.plain 8 d && D.plains 8 ys then some (R.val (.bl (!ys.any fun y => D.beq y d))) else none) = some r := by simpa [ap2] using hf
    split at hf
    · rename_i c
      cases hf
      rw [Bool.and_eq_true] at c
      rw [any_eqv 8 8 d c.1 ys c.2] at q
      first
        | exact notIn_tup hu I rx ry (hK ▸ repw_dp c.1 hd) (by
            obtain ⟨a, xs, rfl, ta, ra⟩ := tup_of he
            exact hK ▸ Dp.tup ta.sq (reps_dp 8 ys xs c.2 ra)) (plain_shaped c.1) (shaped_seq c.2).1 (q _ _ (.val rep_bl))
        | exact op_notInD hu pins s σ H x y v u Q I rx ry ⟨toPy d, toPys ys, hK ▸ repw_dp c.1 hd, (by
            obtain ⟨a, xs, rfl, ta, ra⟩ := he
            exact hK ▸ Dp.lst (SqL.of ta) (reps_dp 8 ys xs c.2 ra)), plain_shaped c.1, (shaped_seq c.2).2, q _ _ (.val rep_bl)⟩
    · cases hf
end
end MP

namespace MP
open PySem PySem.Spec PyProof.Rows L2
variable {P : RP} {L L' : Addr → Prop} {H H' : Hp}

/-! ### sorting ints -/
theorem insS_perm (x : Int) : ∀ l : List Int, (insS x l).Perm (x :: l)
  | [] => List.Perm.refl _
  | y :: ys => by
    unfold insS
    split
    · exact List.Perm.refl _
    · exact ((insS_perm x ys).cons y).trans (List.Perm.swap x y ys)
theorem sortS_perm : ∀ l : List Int, (sortS l).Perm l
  | [] => List.Perm.refl _
  | x :: xs => (insS_perm x (sortS xs)).trans ((sortS_perm xs).cons x)
theorem insS_pw (x : Int) : ∀ l : List Int, l.Pairwise (· ≤ ·) → (insS x l).Pairwise (· ≤ ·)
  | [], _ => by unfold insS; exact List.pairwise_singleton _ _
  | y :: ys, h => by
    have h' := List.pairwise_cons.mp h
    unfold insS
    split
    · rename_i hxy
      refine List.pairwise_cons.mpr ⟨fun z hz => ?_, h⟩
      rcases List.mem_cons.mp hz with rfl | hz
      · exact hxy
      · exact Int.le_trans hxy (h'.1 z hz)
    · rename_i hxy
      refine List.pairwise_cons.mpr ⟨fun z hz => ?_, insS_pw x ys h'.2⟩
      rcases List.mem_cons.mp ((insS_perm x ys).mem_iff.mp hz) with rfl | hz
      · omega
      · exact h'.1 z hz
theorem sortS_pw : ∀ l : List Int, (sortS l).Pairwise (· ≤ ·)
  | [] => by unfold sortS; exact List.Pairwise.nil
  | x :: xs => insS_pw x _ (sortS_pw xs)
theorem sorted_uniq : ∀ {l m : List Int}, l.Perm m → l.Pairwise (· ≤ ·) → m.Pairwise (· ≤ ·) → l = m
  | [], m, p, _, _ => (List.perm_nil.mp p.symm).symm
  | x :: xs, [], p, _, _ => absurd p.length_eq (by simp)
  | x :: xs, y :: ys, p, hl, hm => by
    have hl' := List.pairwise_cons.mp hl
    have hm' := List.pairwise_cons.mp hm
    have e : x = y := by
      have h1 : x ∈ y :: ys := p.mem_iff.mp List.mem_cons_self
      have h2 : y ∈ x :: xs := p.mem_iff.mpr List.mem_cons_self
      rcases List.mem_cons.mp h1 with h1 | h1
      · exact h1
      rcases List.mem_cons.mp h2 with h2 | h2
      · exact h2.symm
      · exact Int.le_antisymm (hl'.1 y h2) (hm'.1 x h1)
    subst e
    rw [sorted_uniq (List.Perm.cons_inv p) hl'.2 hm'.2]
theorem sortS_is {l m : List Int} (p : m.Perm l) (h : m.Pairwise (· ≤ ·)) : m = sortS l := sorted_uniq (p.trans (sortS_perm l).symm) h (sortS_pw l)

theorem ints_spec : ∀ {ds : List D} {ns : List Int}, ints? ds = some ns → ds = ns.map D.int
  | [], ns, h => by cases h; rfl
  | d :: ds, ns, h => by
    unfold ints? at h
    split at h
    · rename_i i r h1 h2
      cases h
      rw [ints_spec h2]; rfl
    · cases h
theorem bls_spec : ∀ {ds : List D} {ns : List Bool}, bls? ds = some ns → ds = ns.map D.bl
  | [], ns, h => by cases h; rfl
  | d :: ds, ns, h => by
    unfold bls? at h
    split at h
    · rename_i i r h1 h2
      cases h
      rw [bls_spec h2]; rfl
    · cases h

def r1 (P : RP) (f : D → Option R) : List V → Hp → VK → Prop := fun xs H Q => ∃ x, xs = [x] ∧ rD1 P f x H Q
section
variable {X : Cx}
theorem seq_of (hK : P.K = X.K) {d : D} {x : V} (h : RepW P L H d x) : (∀ ds, d = .tup ds → ∃ a vs, x = .ref a ∧ SqT X.K H a vs ∧ Reps P L H ds vs) ∧ (∀ ds, d = .lst ds → ∃ a vs, x = .ref a ∧ H a = some (.lst vs) ∧ Reps P L H ds vs) := by
  refine ⟨fun ds e => ?_, fun ds e => ?_⟩
  · subst e
    obtain ⟨a, vs, rfl, t, r⟩ := tup_of h
    exact ⟨a, vs, rfl, hK ▸ t.sq, r⟩
  · subst e; exact h
theorem c_len (hK : P.K = X.K) : CallR X (.builtin "len") (r1 P (ap1 .len)) := by
  intro pins s σ H xs us Q I r h
  obtain ⟨x, rfl, L, d, r', hL, hd, hf, q⟩ := h
  cases d <;> first | (exfalso; revert hf; simp [ap1]; done) | skip
  · obtain ⟨a, vs, rfl, t, rr⟩ := tup_of hd
    simp only [ap1, Option.some.injEq] at hf
    subst hf
    rw [rr.length] at q
    exact call_len_seq pins s σ H _ us Q I r ⟨a, vs, rfl, .inr (hK ▸ t.sq), q _ _ (.val rep_int)⟩
  · obtain ⟨a, vs, rfl, t, rr⟩ := hd
    simp only [ap1, Option.some.injEq] at hf
    subst hf
    rw [rr.length] at q
    exact call_len_seq pins s σ H _ us Q I r ⟨a, vs, rfl, .inl (SqL.of t), q _ _ (.val rep_int)⟩
theorem c_int : CallR X (.type "int") (r1 P (ap1 .int)) := by
  intro pins s σ H xs us Q I r h
  obtain ⟨x, rfl, L, d, r', hL, hd, hf, q⟩ := h
  cases d <;> first | (exfalso; revert hf; simp [ap1]; done) | skip
  · simp only [ap1, Option.some.injEq] at hf
    subst hf
    exact call_int1 pins s σ H _ us Q I r (.inr ⟨_, by rw [bl_of hd], q _ _ (.val rep_int)⟩)
  · simp only [ap1, Option.some.injEq] at hf
    subst hf
    exact call_int1 pins s σ H _ us Q I r (.inl ⟨_, by rw [int_of hd], q _ _ (.val rep_int)⟩)
theorem c_bool : CallR X (.type "bool") (r1 P (ap1 .bool)) := by
  intro pins s σ H xs us Q I r h
  obtain ⟨x, rfl, L, d, r', hL, hd, hf, q⟩ := h
  cases d <;> first | (exfalso; revert hf; simp [ap1]; done) | skip
  simp only [ap1, Option.some.injEq] at hf
  subst hf
  exact call_bool1 pins s σ H _ us Q I r (.inr ⟨_, by rw [bl_of hd], q _ _ (.val rep_bl)⟩)
theorem c_list (hK : P.K = X.K) : CallR X (.type "list") (r1 P (ap1 .list)) := by
  intro pins s σ H xs us Q I r h
  obtain ⟨x, rfl, L, d, r', hL, hd, hf, q⟩ := h
  cases d <;> first | (exfalso; revert hf; simp [ap1]; done) | skip
  · obtain ⟨a, vs, rfl, t, rr⟩ := tup_of hd
    simp only [ap1, Option.some.injEq] at hf
    subst hf
    exact call_list_of pins s σ H _ us Q I r ⟨a, vs, rfl, .inr (hK ▸ t.sq), fun p hp => q _ _ (.lst hp rr)⟩
  · obtain ⟨a, vs, rfl, t, rr⟩ := hd
    simp only [ap1, Option.some.injEq] at hf
    subst hf
    exact call_list_of pins s σ H _ us Q I r ⟨a, vs, rfl, .inl (SqL.of t), fun p hp => q _ _ (.lst hp rr)⟩
theorem c_tuple (hK : P.K = X.K) : CallR X (.type "tuple") (r1 P (ap1 .tuple)) := by
  intro pins s σ H xs us Q I r h
  obtain ⟨x, rfl, L, d, r', hL, hd, hf, q⟩ := h
  cases d <;> first | (exfalso; revert hf; simp [ap1]; done) | skip
  · obtain ⟨a, vs, rfl, t, rr⟩ := tup_of hd
    simp only [ap1, Option.some.injEq] at hf
    subst hf
    exact call_tuple_of pins s σ H _ us Q I r ⟨a, vs, rfl, .inr ⟨hK ▸ t.sq, q _ _ (.val hd)⟩⟩
  · obtain ⟨a, vs, rfl, t, rr⟩ := hd
    simp only [ap1, Option.some.injEq] at hf
    subst hf
    exact call_tuple_of pins s σ H _ us Q I r ⟨a, vs, rfl, .inl ⟨SqL.of t, fun p hp => q _ _ (.tup hL hp rr)⟩⟩
theorem c_sorted (hK : P.K = X.K) : CallR X (.builtin "sorted") (r1 P (ap1 .sorted)) := by
  intro pins s σ H xs us Q I r h
  obtain ⟨x, rfl, L, d, r', hL, hd, hf, q⟩ := h
  cases d <;> first | (exfalso; revert hf; simp [ap1]; done) | skip
  obtain ⟨a, vs, rfl, t, rr⟩ := hd
  obtain ⟨ns, h1, rfl⟩ := Option.map_eq_some_iff.mp (show _ = some r' from hf)
  obtain rfl := ints_spec h1
  obtain rfl := rr.ints
  refine cr_sortedI pins s σ H _ us Q I r ⟨a, ns, rfl, SqL.of t, fun ns' p pm pw hp => ?_⟩
  rw [sortS_is pm pw]
  exact q _ _ (.lst hp (Reps.of_ints _))
theorem c_all (hc : X.calm = true) : CallR X (.builtin "all") (r1 P (ap1 .all)) := by
  intro pins s σ H xs us Q I r h
  obtain ⟨x, rfl, L, d, r', hL, hd, hf, q⟩ := h
  cases d <;> first | (exfalso; revert hf; simp [ap1]; done) | skip
  obtain ⟨a, vs, rfl, t, rr⟩ := hd
  obtain ⟨ns, h1, rfl⟩ := Option.map_eq_some_iff.mp (show _ = some r' from hf)
  obtain rfl := bls_spec h1
  obtain rfl := rr.bls
  exact cr_all hc pins s σ H _ us Q I r ⟨a, ns, rfl, SqL.of t, q _ _ (.val rep_bl)⟩
theorem c_any (hc : X.calm = true) : CallR X (.builtin "any") (r1 P (ap1 .any)) := by
  intro pins s σ H xs us Q I r h
  obtain ⟨x, rfl, L, d, r', hL, hd, hf, q⟩ := h
  cases d <;> first | (exfalso; revert hf; simp [ap1]; done) | skip
  obtain ⟨a, vs, rfl, t, rr⟩ := hd
  obtain ⟨ns, h1, rfl⟩ := Option.map_eq_some_iff.mp (show _ = some r' from hf)
  obtain rfl := bls_spec h1
  obtain rfl := rr.bls
  exact cr_any hc pins s σ H _ us Q I r ⟨a, ns, rfl, SqL.of t, q _ _ (.val rep_bl)⟩
theorem c_sum (hc : X.calm = true) : CallR X (.builtin "sum") (r1 P (ap1 .sum)) := by
  intro pins s σ H xs us Q I r h
  obtain ⟨x, rfl, L, d, r', hL, hd, hf, q⟩ := h
  cases d <;> first | (exfalso; revert hf; simp [ap1]; done) | skip
  obtain ⟨a, vs, rfl, t, rr⟩ := hd
  obtain ⟨ns, h1, rfl⟩ := Option.map_eq_some_iff.mp (show _ = some r' from hf)
  obtain rfl := ints_spec h1
  obtain rfl := rr.ints
  exact cr_sum hc pins s σ H _ us Q I r ⟨a, ns, rfl, SqL.of t, q _ _ (.val rep_int)⟩
theorem c_abs : CallR X (.builtin "abs") (r1 P (ap1 .abs)) := by
  intro pins s σ H xs us Q I r h
  obtain ⟨x, rfl, L, d, r', hL, hd, hf, q⟩ := h
  cases d <;> first | (exfalso; revert hf; simp [ap1]; done) | skip
  simp only [ap1, Option.some.injEq] at hf
  subst hf
  exact call_abs pins s σ H _ us Q I r ⟨_, by rw [int_of hd], q _ _ (.val rep_int)⟩
theorem u_neg : UnR X (unaryOp .USub) (rD1 P (ap1 .neg)) := by
  intro pins s σ H x v Q I r h
  obtain ⟨L, d, r', hL, hd, hf, q⟩ := h
  cases d <;> first | (exfalso; revert hf; simp [ap1]; done) | skip
  simp only [ap1, Option.some.injEq] at hf
  subst hf
  exact un_neg pins s σ H x v Q I r ⟨_, int_of hd, q _ _ (.val rep_int)⟩
/-- isinstance(x, T) -/
def tyN : Ty → String
  | .int => "int" | .bool => "bool" | .list => "list" | .tuple => "tuple" | .str => "str"
def rIsD (P : RP) (t : Ty) : List V → Hp → VK → Prop := fun xs H Q => ∃ x, xs = [x, .ty (tyN t)] ∧ rD1 P (ap1 (.isi t)) x H Q
theorem kit_all (t : Ty) : kitB "NoneType" (tyN t) = some false ∧ kitB "bool" (tyN t) = some (decide (t = .int) || decide (t = .bool)) ∧ kitB "int" (tyN t) = some (decide (t = .int)) ∧ kitB "str" (tyN t) = some (decide (t = .str)) ∧
    kitB "list" (tyN t) = some (decide (t = .list)) ∧ kitB "tuple" (tyN t) = some (decide (t = .tuple)) := by
  cases t <;> decide +kernel
theorem c_isi (hK : P.K = X.K) (t : Ty) : CallR X (.builtin "isinstance") (rIsD P t) := by
  intro pins s σ H xs us Q I r h
  obtain ⟨x, rfl, L, d, r', hL, hd, hf, q⟩ := h
  have k := kit_all t
  have hf : (if noIns d then some (R.val (.bl (isTy t d))) else none) = some r' := hf
  split at hf
  · rename_i hn
    cases hf
    have fin : ∀ (tv : Value) (b : Bool), TyX X.K H x tv → PySem.W.kitOne X.K tv (.type (tyN t)) = some b → b = isTy t d → wpAny (model X.prog X.w) X.A (call (.builtin "isinstance") us) (EP X pins σ Q) X.xe s := fun tv b ht hk e => by
      refine call_isi pins s σ H _ us Q I r ⟨x, .ty (tyN t), tv, .type (tyN t), b, rfl, .ty _, ht, hk, ?_⟩
      subst e
      exact q _ _ (.val rep_bl)
    cases d with
    | non =>
      obtain rfl := non_of hd
      exact fin _ _ (.base .non) (kit_ty k.1) (by cases t <;> rfl)
    | bl b =>
      obtain rfl := bl_of hd
      exact fin _ _ (.base (.bl _)) (kit_ty k.2.1) (by cases t <;> rfl)
    | int i =>
      obtain rfl := int_of hd
      exact fin _ _ (.base (.int _)) (kit_ty k.2.2.1) (by cases t <;> rfl)
    | str y =>
      have : Rep P L H (.str y) x := hd
      unfold Rep at this
      subst this
      exact fin _ _ (.base (.str _)) (kit_ty k.2.2.2.1) (by cases t <;> rfl)
    | lst ds =>
      obtain ⟨a, vs, rfl, ta, _⟩ := hd
      exact fin _ _ (.base (.lst ta)) (kit_ty k.2.2.2.2.1) (by cases t <;> rfl)
    | tup ds =>
      obtain ⟨a, vs, rfl, ta, _⟩ := tup_of hd
      rcases ta with ⟨ta, _⟩ | ta
      · exact fin _ _ (.base (.tup ta)) (kit_ty k.2.2.2.2.2) (by cases t <;> rfl)
      · rcases ta with (z | ⟨_, z⟩) | ⟨o, its, n, e1, e2, e3, _⟩
        · cases z
        · cases z
        · exact fin _ _ (.kTuple (hK ▸ e1) e2) (kit_ty k.2.2.2.2.2) (by cases t <;> rfl)
    | ins c fs => cases hn
  · cases hf

/-! the rest of the two-place operations -/
theorem d_is : OpR X (compareOp .Is) (rD2 P (ap2 .is)) := by
  intro pins s σ H x y v u Q I rx ry h
  obtain ⟨L, d, e, r, hL, hd, he, hf, q⟩ := h
  cases e <;> first | (exfalso; revert hf; simp [ap2]; done) | skip
  · obtain rfl := non_of he
    simp only [ap2, Option.some.injEq] at hf
    subst hf
    refine op_isN pins s σ H x .non v u Q I rx ry ⟨rfl, ?_⟩
    have e : decide (x = V.non) = isNon d := by
      cases d with
      | non => rw [non_of hd]; rfl
      | bl b => rw [bl_of hd]; rfl
      | int b => rw [int_of hd]; rfl
      | str b =>
        have : Rep P L H (.str b) x := hd
        unfold Rep at this
        rw [this]; rfl
      | tup ds => obtain ⟨a, vs, rfl, _⟩ := tup_of hd; rfl
      | lst ds => obtain ⟨a, vs, rfl, _⟩ := hd; rfl
      | ins c fs =>
        have : Rep P L H (.ins c fs) x := hd
        unfold Rep at this
        obtain ⟨a, dx, vs, rfl, _⟩ := this; rfl
    rw [e]
    exact q _ _ (.val rep_bl)
  · cases d <;> first | (exfalso; revert hf; simp [ap2]; done) | skip
    rename_i b c
    simp only [ap2, Option.some.injEq] at hf
    subst hf
    refine op_isBl pins s σ H x y v u Q I rx ry ⟨c, b, bl_of hd, bl_of he, ?_⟩
    have e : decide (c = b) = (c == b) := by cases b <;> cases c <;> rfl
    rw [e]
    exact q _ _ (.val rep_bl)
theorem d_isnot : OpR X (compareOp .IsNot) (rD2 P (ap2 .isnot)) := by
  intro pins s σ H x y v u Q I rx ry h
  obtain ⟨L, d, e, r, hL, hd, he, hf, q⟩ := h
  cases e <;> first | (exfalso; revert hf; simp [ap2]; done) | skip
  · obtain rfl := non_of he
    simp only [ap2, Option.some.injEq] at hf
    subst hf
    refine op_notN pins s σ H x .non v u Q I rx ry ⟨rfl, ?_⟩
    have e : (!decide (x = V.non)) = (!isNon d) := by
      cases d with
      | non => rw [non_of hd]; rfl
      | bl b => rw [bl_of hd]; rfl
      | int b => rw [int_of hd]; rfl
      | str b =>
        have : Rep P L H (.str b) x := hd
        unfold Rep at this
        rw [this]; rfl
      | tup ds => obtain ⟨a, vs, rfl, _⟩ := tup_of hd; rfl
      | lst ds => obtain ⟨a, vs, rfl, _⟩ := hd; rfl
      | ins c fs =>
        have : Rep P L H (.ins c fs) x := hd
        unfold Rep at this
        obtain ⟨a, dx, vs, rfl, _⟩ := this; rfl
    rw [e]
    exact q _ _ (.val rep_bl)
  · cases d <;> first | (exfalso; revert hf; simp [ap2]; done) | skip
    rename_i b c
    simp only [ap2, Option.some.injEq] at hf
    subst hf
    refine op_notBl pins s σ H x y v u Q I rx ry ⟨c, b, bl_of hd, bl_of he, ?_⟩
    have e : decide (c = b) = (c == b) := by cases b <;> cases c <;> rfl
    rw [e]
    exact q _ _ (.val rep_bl)
def cmpOf : O2 → Option CmpOp
  | .eq => some .Eq | .ne => some .NotEq | .lt => some .Lt | .le => some .LtE | .gt => some .Gt | .ge => some .GtE
  | .isin => some .In | .notin => some .NotIn | .is => some .Is | .isnot => some .IsNot
  | _ => none
theorem d_cmp (hK : P.K = X.K) (hu : X.A.units + 65 < cLine) {o : O2} {op : CmpOp} (h : cmpOf o = some op) : OpR X (compareOp op) (rD2 P (ap2 o)) := by
  cases o <;> simp only [cmpOf, reduceCtorEq, Option.some.injEq] at h <;> subst h
  · exact d_eq hK (by omega)
  · exact d_ne hK (by omega)
  · exact d_lt hK (by omega)
  · exact d_cmpI op_le
  · exact d_cmpI op_gt
  · exact d_cmpI op_ge
  · exact d_in hK hu
  · exact d_notin hK hu
  · exact d_is
  · exact d_isnot
theorem seqAt_atI {ds : List D} {vs : List V} {i : Int} {d : D} (r : Reps P L H ds vs) (h : seqAt ds i = some d) : ∃ v, atI vs i = some v ∧ Rep P L H d v := by
  have hl := r.length
  unfold seqAt at h
  unfold atI ixN
  split at h
  · rename_i h0
    obtain ⟨v, e, rv⟩ := r.get h
    have hlt : i.toNat < vs.length := (List.getElem?_eq_some_iff.mp e).1
    rw [if_pos h0, if_pos (by omega)]
    exact ⟨v, e, rv⟩
  · rename_i h0
    split at h
    · rename_i h1
      rw [hl] at h
      obtain ⟨v, e, rv⟩ := r.get h
      rw [if_neg h0, if_pos (by omega)]
      exact ⟨v, e, rv⟩
    · cases h
theorem d_ix (hK : P.K = X.K) : IxR X (rD2 P (ap2 .ix)) := by
  intro val sli pins s σ H x y v u Q I rx ry h hs
  obtain ⟨L, d, e, r, hL, hd, he, hf, q⟩ := h
  cases d <;> first | (exfalso; revert hf; simp [ap2]; done) | skip
  · cases e <;> first | (exfalso; revert hf; simp [ap2]; done) | skip
    obtain ⟨a, vs, rfl, t, rr⟩ := tup_of hd
    obtain ⟨d', h1, rfl⟩ := Option.map_eq_some_iff.mp (show _ = some r from hf)
    obtain ⟨w, h2, h3⟩ := seqAt_atI rr h1
    exact ix_tup val sli pins s σ H _ y v u Q I rx ry ⟨a, vs, _, w, rfl, int_of he, hK ▸ t.sq, h2, q _ _ (.val h3)⟩ hs
  · cases e <;> first | (exfalso; revert hf; simp [ap2]; done) | skip
    obtain ⟨a, vs, rfl, t, rr⟩ := hd
    obtain ⟨d', h1, rfl⟩ := Option.map_eq_some_iff.mp (show _ = some r from hf)
    obtain ⟨w, h2, h3⟩ := seqAt_atI rr h1
    exact ix_list val sli pins s σ H _ y v u Q I rx ry ⟨a, vs, _, w, rfl, int_of he, SqL.of t, h2, q _ _ (.val h3)⟩ hs
/-- slices -/
theorem cutD_V {ds : List D} {vs : List V} (r : Reps P L H ds vs) (lo hi : Option Int) : Reps P L H (cutD ds lo hi) (cutV vs lo hi) := by
  unfold cutD cutV
  rw [r.length]
  exact (r.drop _).take _
def rSlD (P : RP) : V → Option Int → Option Int → Hp → VK → Prop := fun x lo hi H Q => ∃ (L : Addr → Prop) (d : D) (r : R), (∀ b, L b → ∃ o, H b = some o) ∧ RepW P L H d x ∧ apSl d lo hi = some r ∧ ∀ v H', OpPost P L H r v H' → Q v H'
theorem d_sl (hK : P.K = X.K) : SlR X (rSlD P) := by
  intro pins s σ H x v vl vu lo hi sl Q I rx hs pl pu h
  obtain ⟨L, d, r, hL, hd, hf, q⟩ := h
  cases d <;> first | (exfalso; revert hf; simp [apSl]; done) | skip
  · obtain ⟨a, vs, rfl, t, rr⟩ := tup_of hd
    simp only [apSl, Option.some.injEq] at hf
    subst hf
    refine sl_tupA pins s σ H _ v vl vu lo hi sl Q I rx hs pl pu ⟨a, vs, rfl, hK ▸ t.sq, fun hw => ?_, fun _ p hp => q _ _ (.tup hL hp (cutD_V rr lo hi))⟩
    rename_i ds
    have e : cutD ds lo hi = ds := by
      unfold cutD
      rw [rr.length, hw.1, hw.2, List.drop_zero, Nat.sub_zero, ← rr.length, List.take_length]
    rw [e] at q
    exact q _ _ (.val hd)
  · obtain ⟨a, vs, rfl, t, rr⟩ := hd
    simp only [apSl, Option.some.injEq] at hf
    subst hf
    exact sl_list pins s σ H _ v vl vu lo hi sl Q I rx hs pl pu ⟨a, vs, rfl, SqL.of t, fun p hp => q _ _ (.lst hp (cutD_V rr lo hi))⟩
/-- truth -/
theorem truth_V (hK : P.K = X.K) {d : D} {x : V} {k : Bool} (hd : RepW P L H d x) (h : truth d = some k) : TruV X.K x H k := by
  cases d <;> simp only [truth, reduceCtorEq, Option.some.injEq] at h
  · rw [non_of hd]; exact h.symm
  · rw [bl_of hd]; exact h.symm
  · rw [int_of hd]; exact h.symm
  · obtain ⟨a, vs, rfl, t, rr⟩ := tup_of hd
    refine .inr (.inl ⟨vs, hK ▸ t.sq, ?_⟩)
    rw [← h]
    have := rr.length
    cases vs <;> cases ‹List D› <;> simp_all
  · obtain ⟨a, vs, rfl, t, rr⟩ := hd
    refine .inl ⟨vs, SqL.of t, ?_⟩
    rw [← h]
    have := rr.length
    cases vs <;> cases ‹List D› <;> simp_all
end
end MP

namespace MP
open PySem PySem.Spec PyProof.Rows L2
variable {P : RP} {L L' : Addr → Prop} {H H' : Hp} {L0 : Addr → Prop} {loc loc' : Loc} {σ : Sg}

theorem _root_.L2.PE.imp {X : Cx} {e : Expr} {t t' : TE} (h : PE X e t) (w : ∀ σ H Q, t' σ H Q → t σ H Q) : PE X e t' := ⟨fun pins s σ H Q I q => h.run pins s σ H Q I (w σ H Q q)⟩
theorem _root_.L2.PT.imp {X : Cx} {e : Expr} {t t' : TT} (h : PT X e t) (w : ∀ σ H Q, t' σ H Q → t σ H Q) : PT X e t' := ⟨fun pins s σ H Q I q => h.run pins s σ H Q I (w σ H Q q)⟩
theorem _root_.L2.PW.imp {X : Cx} {e : Expr} {t t' : TT} (h : PW X e t) (w : ∀ σ H Q, t' σ H Q → t σ H Q) : PW X e t' := ⟨fun wh pins s σ H Q I q => h.run wh pins s σ H Q I (w σ H Q q)⟩
theorem _root_.L2.PA.imp {X : Cx} {e : List Expr} {t t' : TA} (h : PA X e t) (w : ∀ σ H Q, t' σ H Q → t σ H Q) : PA X e t' := ⟨fun p pins s σ H Q I q => h.run p pins s σ H Q I (w σ H Q q)⟩
theorem _root_.L2.PK.imp {X : Cx} {e : List Keyword} {t t' : TA} (h : PK X e t) (w : ∀ σ H Q, t' σ H Q → t σ H Q) : PK X e t' := ⟨fun p pins s σ H Q I q => h.run p pins s σ H Q I (w σ H Q q)⟩
theorem _root_.L2.PO.imp {X : Cx} {e : Option Expr} {t t' : TO} (h : PO X e t) (w : ∀ σ H Q, t' σ H Q → t σ H Q) : PO X e t' := ⟨fun pins s σ H Q I q => h.run pins s σ H Q I (w σ H Q q)⟩
theorem _root_.L2.PS.imp {X : Cx} {e : Stmt} {t t' : TS} (h : PS X e t) (w : ∀ D σ H, t' D σ H → t D σ H) : PS X e t' := ⟨fun pins s σ H D I q => h.run pins s σ H D I (w D σ H q)⟩
theorem _root_.L2.PSs.imp {X : Cx} {e : List Stmt} {t t' : TS} (h : PSs X e t) (w : ∀ D σ H, t' D σ H → t D σ H) : PSs X e t' := ⟨fun pins s σ H D I q => h.run pins s σ H D I (w D σ H q)⟩
theorem _root_.L2.PG.imp {X : Cx} {e : Expr} {t t' : TG} (h : PG X e t) (w : ∀ v σ H Q, t' v σ H Q → t v σ H Q) : PG X e t' := ⟨fun pins s σ H v u Q I r q => h.run pins s σ H v u Q I r (w v σ H Q q)⟩

theorem EvPost.refl {r : D} {v : V} (R : Rel P L0 loc σ H) (h : RepR P L0 loc σ H (.val r) v) : EvPost P L0 loc σ H loc (.val r) v H := ⟨R, fun _ _ e _ => e, fun _ z => z, h, fun _ o e => ⟨o, e⟩, (fun _ _ e => nomatch e), fun _ ds e => ⟨ds, e⟩, fun _ _ e _ => e⟩
theorem EvPost.reflR {i : Nat} {v : V} (R : Rel P L0 loc σ H) (h : RepR P L0 loc σ H (.ref i) v) : EvPost P L0 loc σ H loc (.ref i) v H := ⟨R, fun _ _ e _ => e, fun _ z => z, h, fun _ o e => ⟨o, e⟩, (fun _ _ e => nomatch e), fun _ ds e => ⟨ds, e⟩, fun _ _ e _ => e⟩
theorem EvPost.op {r : R} {v : V} (R : Rel P L0 loc σ H) (h : OpPost P (Lv L0 loc σ) H r v H') : EvPost P L0 loc σ H loc r v H' := by
  cases r with
  | val d =>
    obtain ⟨s, r⟩ := h
    exact ⟨R.grow s (fun b z => .inl z) fun b z => by obtain ⟨o, e⟩ := R.l0 b z; exact ⟨o, s _ _ e⟩, fun b o e _ => s b o e, fun _ z => z, r, fun b o e => ⟨o, s b o e⟩, (fun _ _ e => nomatch e), fun _ ds e => ⟨ds, e⟩, fun _ _ e _ => e⟩
  | ref i => exact h.elim
  | new ds =>
    obtain ⟨p, vs, rfl, hp, rfl, r⟩ := h
    have s : Same H (upd H p (.lst vs)) := same_upd hp
    have np : ¬ Lv L0 loc σ p := fun z => by obtain ⟨o, e⟩ := R.lv z; rw [hp] at e; cases e
    refine ⟨R.grow s (fun b z => .inl z) fun b z => by obtain ⟨o, e⟩ := R.l0 b z; exact ⟨o, s _ _ e⟩, fun b o e _ => s b o e, fun _ z => z, ⟨p, vs, rfl, upd_same, np, ?_, ?_⟩, fun b o e => ⟨o, s b o e⟩, fun _ c _ e => by cases e; exact hp, fun _ ds e => ⟨ds, e⟩, fun _ _ e _ => e⟩
    · refine Reps.keep (fun b o e _ => s b o e) (fun b z => ?_) _ _ r
      rcases z with z | rfl
      · exact .inl z
      · exact .inr hp
    · refine R.grow s (fun b z => ?_) fun b z => ?_
      · rcases z with z | rfl
        · exact .inl z
        · exact .inr hp
      · rcases z with z | rfl
        · obtain ⟨o, e⟩ := R.l0 b z; exact ⟨o, s _ _ e⟩
        · exact ⟨_, upd_same⟩
theorem res_w {r : R} {v : V} {d : D} (R : Rel P L0 loc σ H) (h : RepR P L0 loc σ H r v) (e : res loc r = some d) : RepW P (Lv L0 loc σ) H d v := by
  cases r with
  | val d' => cases e; exact Rep.w h
  | new ds =>
    cases e
    obtain ⟨a, vs, e1, h1, h2, h3, _⟩ := h
    exact ⟨a, vs, e1, h1, Reps.weak (fun b z => .inl z) h3⟩
  | ref i =>
    simp only [res] at e
    split at e
    · rename_i b ds hl
      cases e
      obtain ⟨a, vs, e1, h1, _, h3⟩ := R.own _ _ _ hl
      have h' : σ[i]? = some (some v) := h
      rw [e1] at h'
      cases h'
      exact ⟨a, vs, rfl, h1, h3⟩
    · cases e
theorem res_sett {r : R} : res loc (sett r) = res loc r := by cases r <;> rfl
theorem toVal_rep {r : R} {v : V} {d : D} (h : RepR P L0 loc σ H r v) (e : toVal r = some d) : Rep P (Lv L0 loc σ) H d v := by
  cases r with
  | val d' => cases e; exact h
  | new ds => cases e; exact h.sett
  | ref i => cases e
theorem tval_sett {r : R} {d : D} (e : toVal r = some d) : sett r = .val d := by
  cases r with
  | val d' => cases e; rfl
  | new ds => cases e; rfl
  | ref i => cases e

/-! ### two-place -/
theorem o2_read {f : D → D → Option R} {ga gb g : Loc → Option (R × Loc)} (hg : ∀ loc r loc', g loc = some (r, loc') → ∃ ra l1 rb d e, ga loc = some (ra, l1) ∧ gb l1 = some (rb, loc') ∧ res loc' (sett ra) = some d ∧ res loc' rb = some e ∧ f d e = some r)
    {Q : VK} (h : tE P g σ H Q) : tOp (rD2 P f) (tE P ga) (tE P gb) σ H Q := by
  obtain ⟨L0, loc, r, loc', R, e, k⟩ := h
  obtain ⟨ra, l1, rb, d, e', h1, h2, h3, h4, h5⟩ := hg _ _ _ e
  refine ⟨L0, loc, ra, l1, R, h1, fun x H1 p1 => ⟨L0, l1, rb, loc', p1.rel, h2, fun y H2 p2 => ⟨Lv L0 loc' σ, d, e', r, fun b z => p2.rel.lv z, res_w p2.rel (p1.rep.sett.after p2) h3, res_w p2.rel p2.rep h4, h5, fun v H' hp => ?_⟩⟩⟩
  exact k v H' ((p1.trans p2).trans (EvPost.op p2.rel hp))
theorem o1_read {f : D → Option R} {ga g : Loc → Option (R × Loc)} (hg : ∀ loc r loc', g loc = some (r, loc') → ∃ ra d, ga loc = some (ra, loc') ∧ res loc' ra = some d ∧ f d = some r)
    {Q : VK} (h : tE P g σ H Q) : tE P ga σ H fun x H1 => rD1 P f x H1 Q := by
  obtain ⟨L0, loc, r, loc', R, e, k⟩ := h
  obtain ⟨ra, d, h1, h3, h5⟩ := hg _ _ _ e
  refine ⟨L0, loc, ra, loc', R, h1, fun x H1 p1 => ⟨Lv L0 loc' σ, d, r, fun b z => p1.rel.lv z, res_w p1.rel p1.rep h3, h5, fun v H' hp => ?_⟩⟩
  exact k v H' (p1.trans (EvPost.op p1.rel hp))

/-! ### freezing a list -/
theorem getset {loc : Loc} {i j : Nat} {s t : Slot} (h : (loc.set i s)[j]? = some t) : (i = j ∧ t = s ∧ i < loc.length) ∨ (i ≠ j ∧ loc[j]? = some t) := by
  by_cases e : i = j
  · subst e
    by_cases hl : i < loc.length
    · rw [List.getElem?_set_self hl] at h; cases h; exact .inl ⟨rfl, rfl, hl⟩
    · rw [List.getElem?_eq_none (by simpa using hl)] at h; cases h
  · rw [List.getElem?_set_ne e] at h; exact .inr ⟨e, h⟩
theorem lt_of_get {α : Type} {l : List α} {i : Nat} {a : α} (h : l[i]? = some a) : i < l.length := (List.getElem?_eq_some_iff.mp h).1
/-- an own list changed or frozen, in the heap or not: what all others know stays -/
theorem Rel.change {i : Nat} {b : Bool} {ds : List D} {a : Addr} {s : Slot} {H' : Hp} (R : Rel P L0 loc σ H) (hi : loc[i]? = some (.own b ds)) (ha : σ[i]? = some (some (.ref a)))
    (hH : ∀ c o, H c = some o → c ≠ a → H' c = some o)
    (hs : (∃ b' es vs, s = .own b' es ∧ H' a = some (.lst vs) ∧ Reps P (Lv L0 loc σ) H' es vs) ∨ (∃ d, s = .dat d ∧ Rep P (fun c => Lv L0 loc σ c ∧ c ≠ a) H' d (.ref a))) : Rel P L0 (loc.set i s) σ H' := by
  obtain ⟨a', vs0, ea, h0, n0, r0⟩ := R.own _ _ _ hi
  rw [ha] at ea; cases ea
  have hil := lt_of_get hi
  have La : Lv L0 loc σ a := .inr ⟨i, b, ds, hi, ha⟩
  -- the live ones behind it are live ahead; a itself only where s is own
  have lv : ∀ c, Lv L0 (loc.set i s) σ c → Lv L0 loc σ c := fun c z => by
    rcases z with z | ⟨j, b', es, e1, e2⟩
    · exact .inl z
    · rcases getset e1 with ⟨rfl, _, _⟩ | ⟨_, e1⟩
      · rw [ha] at e2; cases e2; exact La
      · exact .inr ⟨j, b', es, e1, e2⟩
  have lva : (∃ d, s = .dat d) → ∀ c, Lv L0 (loc.set i s) σ c → c ≠ a := fun hd c z e => by
    subst e
    rcases z with z | ⟨j, b', es, e1, e2⟩
    · exact n0 z
    · rcases getset e1 with ⟨rfl, e3, _⟩ | ⟨ne, e1⟩
      · obtain ⟨d, rfl⟩ := hd; cases e3
      · exact ne (R.inj _ _ _ _ _ _ _ hi e1 ha e2)
  have kp : ∀ c o, H c = some o → ¬ Lv L0 loc σ c → H' c = some o := fun c o e n => hH c o e fun z => n (z ▸ La)
  refine ⟨by rw [List.length_set]; exact R.len, fun c z => ?_, fun j d e => ?_, fun j b' es e => ?_, fun j k b' c' es fs w e1 e2 e3 e4 => ?_, fun j ns e => ?_⟩
  · obtain ⟨o, e⟩ := R.l0 c z
    exact ⟨o, hH c o e fun q => n0 (q ▸ z)⟩
  · rcases getset e with ⟨rfl, e3, _⟩ | ⟨ne, e⟩
    · rcases hs with ⟨_, _, _, rfl, _⟩ | ⟨d', rfl, r⟩
      · cases e3
      · cases e3
        exact ⟨_, ha, Rep.weak (fun c z => ⟨lv c z, lva ⟨_, rfl⟩ c z⟩) r⟩
    · obtain ⟨v, e1, r⟩ := R.dat j d e
      exact ⟨v, e1, Rep.keep kp (fun c z => .inl (lv c z)) d v r⟩
  · rcases getset e with ⟨rfl, e3, _⟩ | ⟨ne, e⟩
    · rcases hs with ⟨b2, es2, vs, rfl, h1, r⟩ | ⟨d', rfl, r⟩
      · cases e3
        exact ⟨a, vs, ha, h1, n0, Reps.weak lv r⟩
      · cases e3
    · obtain ⟨a2, vs, e1, h1, n1, r⟩ := R.own j b' es e
      have ne2 : a2 ≠ a := fun q => by subst q; exact ne (R.inj _ _ _ _ _ _ _ hi e ha e1)
      exact ⟨a2, vs, e1, hH _ _ h1 ne2, n1, Reps.keep kp (fun c z => .inl (lv c z)) es vs r⟩
  · rcases getset e1 with ⟨rfl, _, _⟩ | ⟨_, e1⟩
    · rcases getset e2 with ⟨rfl, _, _⟩ | ⟨_, e2⟩
      · rfl
      · exact R.inj _ _ _ _ _ _ _ hi e2 e3 e4
    · rcases getset e2 with ⟨rfl, _, _⟩ | ⟨_, e2⟩
      · exact R.inj _ _ _ _ _ _ _ e1 hi e3 e4
      · exact R.inj _ _ _ _ _ _ _ e1 e2 e3 e4
  · rcases getset e with ⟨rfl, e3, _⟩ | ⟨ne, e⟩
    · rcases hs with ⟨_, _, _, rfl, _⟩ | ⟨d', rfl, r⟩ <;> cases e3
    · obtain ⟨a2, e1, h1⟩ := R.scr j ns e
      exact ⟨a2, e1, h1.keep kp fun c z => .inl (lv c z)⟩
theorem own_set {i : Nat} {b : Bool} {ds : List D} {s : Slot} (hi : loc[i]? = some (.own b ds)) : ∀ c, OwnAt (loc.set i s) σ c → OwnAt loc σ c := fun c z => by
  obtain ⟨j, b', es, e1, e2⟩ := z
  rcases getset e1 with ⟨rfl, rfl, _⟩ | ⟨_, e1⟩
  · exact ⟨i, b, ds, hi, e2⟩
  · exact ⟨j, b', es, e1, e2⟩
/-- an own list gets other items in the heap -/
theorem EvPost.mut {i : Nat} {b : Bool} {ds es : List D} {a : Addr} {vs : List V} {r : R} {v : V} (R : Rel P L0 loc σ H) (hi : loc[i]? = some (.own b ds)) (ha : σ[i]? = some (some (.ref a))) (hr : Reps P (Lv L0 loc σ) H es vs)
    (hv : ∀ d, r = .val d → Rep P (Lv L0 loc σ) H d v) (hn : ∃ d, r = .val d) : EvPost P L0 loc σ H (loc.set i (.own b es)) r v (upd H a (.lst vs)) := by
  obtain ⟨a', vs0, ea, h0, n0, r0⟩ := R.own _ _ _ hi
  rw [ha] at ea; cases ea
  have La : Lv L0 loc σ a := .inr ⟨i, b, ds, hi, ha⟩
  have kp : ∀ c o, H c = some o → ¬ Lv L0 loc σ c → (upd H a (.lst vs)) c = some o := fun c o e n => by
    rw [upd_ne (fun z => n (by rw [z]; exact La))]; exact e
  have rel := R.change (s := .own b es) (H' := upd H a (.lst vs)) hi ha (fun c o e n => by rw [upd_ne n]; exact e) (.inl ⟨b, es, vs, rfl, upd_same, Reps.keep kp (fun c z => .inl z) _ _ hr⟩)
  obtain ⟨d, rfl⟩ := hn
  refine ⟨rel, fun c o e n => ?_, own_set hi, ?_, fun c o e => ?_, (fun _ _ e => nomatch e), fun j es' e => ?_, fun j s e n => by
    by_cases z : i = j
    · subst z; rw [hi] at e; cases e; exact absurd rfl (n _ _)
    · rw [List.getElem?_set_ne z]; exact e⟩
  · rw [upd_ne (fun z => n (by rw [z]; exact ⟨i, b, ds, hi, ha⟩))]; exact e
  · exact Rep.keep kp (fun c z => .inl (z.imp id (own_set hi c))) d v (hv d rfl)
  · by_cases z : c = a
    · subst z; exact ⟨_, upd_same⟩
    · exact ⟨o, by rw [upd_ne z]; exact e⟩
  · by_cases z : i = j
    · subst z
      rw [hi] at e; cases e
      exact ⟨es, List.getElem?_set_self (lt_of_get hi)⟩
    · exact ⟨es', by rw [List.getElem?_set_ne z]; exact e⟩
theorem fz_post {i : Nat} {ds : List D} (R : Rel P L0 loc σ H) (hi : loc[i]? = some (.own false ds)) : ∃ v, σ[i]? = some (some v) ∧ EvPost P L0 loc σ H (loc.set i (.dat (.lst ds))) (.val (.lst ds)) v H := by
  obtain ⟨a, vs, ea, h0, n0, r0⟩ := R.own _ _ _ hi
  have rep : Rep P (fun c => Lv L0 loc σ c ∧ c ≠ a) H (.lst ds) (.ref a) := by
    unfold Rep
    exact ⟨a, vs, rfl, h0, fun z => z.2 rfl, Reps.weak (fun c z => z.1) r0⟩
  have rel := R.change (s := .dat (.lst ds)) (H' := H) hi ea (fun c o e _ => e) (.inr ⟨_, rfl, rep⟩)
  refine ⟨_, ea, rel, fun c o e _ => e, own_set hi, ?_, fun c o e => ⟨o, e⟩, (fun _ _ e => nomatch e), fun j es' e => ?_, fun j s e n => by
    by_cases z : i = j
    · subst z; rw [hi] at e; cases e; exact absurd rfl (n _ _)
    · rw [List.getElem?_set_ne z]; exact e⟩
  rotate_left
  · by_cases z : i = j
    · subst z; rw [hi] at e; cases e
    · exact ⟨es', by rw [List.getElem?_set_ne z]; exact e⟩
  obtain ⟨v, e1, r⟩ := rel.dat i (.lst ds) (List.getElem?_set_self (lt_of_get hi))
  rw [ea] at e1; cases e1
  exact r
end MP

namespace MP
open PySem PySem.Spec PyProof.Rows L2
variable {P : RP} {L L' : Addr → Prop} {H H' : Hp} {L0 : Addr → Prop} {loc loc' : Loc} {σ σ' : Sg}

/-! ### argument lists -/
def RepRs (P : RP) (L0 : Addr → Prop) (loc : Loc) (σ : Sg) (H : Hp) : List R → List V → Prop
  | [], vs => vs = []
  | r :: rs, vs => ∃ v w, vs = v :: w ∧ RepR P L0 loc σ H (sett r) v ∧ RepRs P L0 loc σ H rs w
theorem RepRs.length : ∀ {rs : List R} {vs : List V}, RepRs P L0 loc σ H rs vs → rs.length = vs.length
  | [], _, h => by subst h; rfl
  | r :: rs, vs, h => by
    obtain ⟨v, w, rfl, _, h2⟩ := h
    simp [RepRs.length h2]
theorem RepRs.get : ∀ {rs : List R} {vs : List V} {k : Nat} {r : R}, RepRs P L0 loc σ H rs vs → rs[k]? = some r → ∃ v, vs[k]? = some v ∧ RepR P L0 loc σ H (sett r) v
  | [], _, k, r, h, e => by simp at e
  | r' :: rs, vs, k, r, h, e => by
    obtain ⟨v, w, rfl, h1, h2⟩ := h
    cases k with
    | zero => simp at e; subst e; exact ⟨v, by simp, h1⟩
    | succ k =>
      obtain ⟨u, e2, h3⟩ := RepRs.get (k := k) h2 (by simpa using e)
      exact ⟨u, by simpa using e2, h3⟩
theorem RepRs.after {r : R} {v : V} : ∀ {rs : List R} {vs : List V}, RepRs P L0 loc σ H rs vs → EvPost P L0 loc σ H loc' r v H' → RepRs P L0 loc' σ H' rs vs
  | [], _, h, _ => h
  | r' :: rs, vs, h, p => by
    obtain ⟨v, w, rfl, h1, h2⟩ := h
    exact ⟨v, w, rfl, h1.after p, RepRs.after h2 p⟩
theorem RepRs.append : ∀ {rs ss : List R} {vs ws : List V}, RepRs P L0 loc σ H rs vs → RepRs P L0 loc σ H ss ws → RepRs P L0 loc σ H (rs ++ ss) (vs ++ ws)
  | [], _, _, _, h, h' => by subst h; exact h'
  | r' :: rs, ss, vs, ws, h, h' => by
    obtain ⟨v, w, rfl, h1, h2⟩ := h
    exact ⟨v, w ++ ws, rfl, h1, RepRs.append h2 h'⟩
theorem RepRs.toVals : ∀ {rs : List R} {vs : List V} {ds : List D}, RepRs P L0 loc σ H rs vs → rs.mapM toVal = some ds → Reps P (Lv L0 loc σ) H ds vs
  | [], _, ds, h, e => by
    subst h
    rw [List.mapM_nil] at e
    cases e
    exact Reps.nil
  | r :: rs, vs, ds, h, e => by
    obtain ⟨v, w, rfl, h1, h2⟩ := h
    rw [List.mapM_cons] at e
    cases e1 : toVal r with
    | none => rw [e1] at e; cases e
    | some d =>
      cases e2 : rs.mapM toVal with
      | none => rw [e1, e2] at e; cases e
      | some ds' =>
        rw [e1, e2] at e
        cases e
        rw [tval_sett e1] at h1
        exact Reps.cons h1 (RepRs.toVals h2 e2)
/-- the reading of arguments -/
def tA (P : RP) (g : Loc → Option (List R × Loc)) : TA := fun σ H Q => ∃ L0 loc rs loc', Rel P L0 loc σ H ∧ g loc = some (rs, loc') ∧ ∀ vs H', EvPost P L0 loc σ H loc' (.val .non) .non H' → RepRs P L0 loc' σ H' rs vs → Q vs H'
theorem repR_non : RepR P L0 loc σ H (.val .non) .non := by
  show Rep P (Lv L0 loc σ) H .non .non
  unfold Rep
  rfl
theorem EvPost.blank {r : R} {v : V} (p : EvPost P L0 loc σ H loc' r v H') : EvPost P L0 loc σ H loc' (.val .non) .non H' := ⟨p.rel, p.keep, p.own, repR_non, p.there, (fun _ _ e => nomatch e), p.pin, p.fix⟩
theorem EvPost.none0 (R : Rel P L0 loc σ H) : EvPost P L0 loc σ H loc (.val .non) .non H := .refl R repR_non
/-- an earlier step, then one with a result -/
theorem EvPost.to {H1 : Hp} {loc1 : Loc} {r r' : R} {v v' : V} (p : EvPost P L0 loc σ H loc1 r v H1) (q : EvPost P L0 loc1 σ H1 loc' r' v' H') : EvPost P L0 loc σ H loc' r' v' H' := p.trans q
theorem a_nil {gs : Loc → Option (List R × Loc)} (hg : ∀ loc rs loc', gs loc = some (rs, loc') → rs = [] ∧ loc' = loc) {Q : List V → Hp → Prop} (h : tA P gs σ H Q) : tNil σ H Q := by
  obtain ⟨L0, loc, rs, loc', R, e, k⟩ := h
  obtain ⟨rfl, rfl⟩ := hg _ _ _ e
  exact k [] H (.none0 R) rfl
theorem a_cons {g : Loc → Option (R × Loc)} {gr gs : Loc → Option (List R × Loc)}
    (hg : ∀ loc rs loc', gs loc = some (rs, loc') → ∃ r l1 rs', g loc = some (r, l1) ∧ gr l1 = some (rs', loc') ∧ rs = sett r :: rs') {Q : List V → Hp → Prop} (h : tA P gs σ H Q) : tCons (tE P g) (tA P gr) σ H Q := by
  obtain ⟨L0, loc, rs, loc', R, e, k⟩ := h
  obtain ⟨r, l1, rs', h1, h2, rfl⟩ := hg _ _ _ e
  refine ⟨L0, loc, r, l1, R, h1, fun x H1 p1 => ⟨L0, l1, rs', loc', p1.rel, h2, fun vs H2 p2 q2 => ?_⟩⟩
  refine k (x :: vs) H2 (p1.blank.trans p2) ⟨x, vs, rfl, ?_, q2⟩
  have h := p1.rep.sett.after p2
  have e : sett (sett r) = sett r := by cases r <;> rfl
  rw [e]; exact h

/-! ### a call -/
/-- what a def promises by an evaluator -/
def spOf (P : RP) (g : Loc → Option (R × Loc)) (ar : Nat) : Sp := fun vs H Q _ => vs.length = ar ∧ ∃ L0 a r a', Rel P L0 a (vs.map some) H ∧ g a = some (r, a') ∧ (∀ i, r ≠ .ref i) ∧ ∀ v H', EvPost P L0 a (vs.map some) H a' r v H' → Q v H'

theorem argsOf_len : ∀ {rs : List R} {a : Loc}, argsOf loc rs = some a → rs.length = a.length
  | [], a, h => by cases h; rfl
  | r :: rs, a, h => by
    unfold argsOf at h
    split at h
    · rename_i s l h1 h2
      cases h
      simp [argsOf_len h2]
    · cases h
theorem argsOf_get : ∀ {rs : List R} {a : Loc} {k : Nat} {s : Slot}, argsOf loc rs = some a → a[k]? = some s → ∃ r, rs[k]? = some r ∧ argOf loc r = some s
  | [], a, k, s, h, e => by cases h; simp at e
  | r :: rs, a, k, s, h, e => by
    unfold argsOf at h
    split at h
    · rename_i s' l h1 h2
      cases h
      cases k with
      | zero => simp at e; subst e; exact ⟨r, by simp, h1⟩
      | succ k =>
        obtain ⟨r', e1, e2⟩ := argsOf_get (k := k) h2 (by simpa using e)
        exact ⟨r', by simpa using e1, e2⟩
    · cases h
theorem argsOf_getR : ∀ {rs : List R} {a : Loc} {k : Nat} {r : R}, argsOf loc rs = some a → rs[k]? = some r → ∃ s, a[k]? = some s ∧ argOf loc r = some s
  | [], a, k, s, h, e => by simp at e
  | r' :: rs, a, k, r, h, e => by
    unfold argsOf at h
    split at h
    · rename_i s' l h1 h2
      cases h
      cases k with
      | zero => simp at e; subst e; exact ⟨s', by simp, h1⟩
      | succ k =>
        obtain ⟨r', e1, e2⟩ := argsOf_getR (k := k) h2 (by simpa using e)
        exact ⟨r', by simpa using e1, e2⟩
    · cases h
theorem refs_mem : ∀ {rs : List R} {k i : Nat}, rs[k]? = some (.ref i) → i ∈ refs rs
  | [], k, i, e => by simp at e
  | r :: rs, k, i, e => by
    cases k with
    | zero => simp at e; subst e; simp [refs]
    | succ k =>
      have := refs_mem (rs := rs) (k := k) (by simpa using e)
      cases r <;> simp [refs, this]
theorem refs_inj : ∀ {rs : List R} {k l i : Nat}, nodupB (refs rs) = true → rs[k]? = some (.ref i) → rs[l]? = some (.ref i) → k = l
  | [], k, l, i, _, e, _ => by simp at e
  | r :: rs, k, l, i, h, e1, e2 => by
    cases k with
    | zero =>
      simp at e1; subst e1
      cases l with
      | zero => rfl
      | succ l =>
        have := refs_mem (rs := rs) (k := l) (by simpa using e2)
        simp [refs, nodupB, this] at h
    | succ k =>
      cases l with
      | zero =>
        simp at e2; subst e2
        have := refs_mem (rs := rs) (k := k) (by simpa using e1)
        simp [refs, nodupB, this] at h
      | succ l =>
        have h' : nodupB (refs rs) = true := by
          cases r <;> simp_all [refs, nodupB]
        have := refs_inj (rs := rs) (k := k) (l := l) (i := i) h' (by simpa using e1) (by simpa using e2)
        rw [this]
theorem given_spec : ∀ {rs : List R} {a : Loc} {l l' : Loc}, nodupB (refs rs) = true → given rs a l = some l' →
    l'.length = l.length ∧
    (∀ (j : Nat) (s : Slot), l'[j]? = some s → (∃ (k : Nat) (b' b : Bool) (ds ds0 : List D), rs[k]? = some (R.ref j) ∧ a[k]? = some (.own b' ds) ∧ l[j]? = some (.own b ds0) ∧ s = .own b ds) ∨
      (l[j]? = some s ∧ ∀ (k : Nat), rs[k]? = some (R.ref j) → ∃ ns, s = .scr ns)) ∧
    (∀ (k j : Nat) (b : Bool) (ds0 : List D), rs[k]? = some (.ref j) → l[j]? = some (.own b ds0) → ∃ b' ds, a[k]? = some (.own b' ds))
  | [], a, l, l', _, h => by
    cases h
    exact ⟨rfl, fun j s e => .inr ⟨e, fun k e => by simp at e⟩, fun k j b ds0 e => by simp at e⟩
  | .val d :: rs, a, l, l', hn, h => by
    unfold given at h
    cases a with
    | nil => cases h
    | cons s0 a =>
      obtain ⟨h1, h2, h3⟩ := given_spec (rs := rs) (by simpa [refs] using hn) h
      refine ⟨h1, fun j s e => ?_, fun k j b ds0 e1 e2 => ?_⟩
      · rcases h2 j s e with ⟨k, b', b, ds, ds0, q1, q2, q3, q4⟩ | ⟨q1, q2⟩
        · exact .inl ⟨k + 1, b', b, ds, ds0, by simpa using q1, by simpa using q2, q3, q4⟩
        · refine .inr ⟨q1, fun k e => ?_⟩
          cases k with
          | zero => simp at e
          | succ k => exact q2 k (by simpa using e)
      · cases k with
        | zero => simp at e1
        | succ k =>
          obtain ⟨b', ds, q⟩ := h3 k j b ds0 (by simpa using e1) e2
          exact ⟨b', ds, by simpa using q⟩
  | .new d :: rs, a, l, l', hn, h => by
    unfold given at h
    cases a with
    | nil => cases h
    | cons s0 a =>
      obtain ⟨h1, h2, h3⟩ := given_spec (rs := rs) (by simpa [refs] using hn) h
      refine ⟨h1, fun j s e => ?_, fun k j b ds0 e1 e2 => ?_⟩
      · rcases h2 j s e with ⟨k, b', b, ds, ds0, q1, q2, q3, q4⟩ | ⟨q1, q2⟩
        · exact .inl ⟨k + 1, b', b, ds, ds0, by simpa using q1, by simpa using q2, q3, q4⟩
        · refine .inr ⟨q1, fun k e => ?_⟩
          cases k with
          | zero => simp at e
          | succ k => exact q2 k (by simpa using e)
      · cases k with
        | zero => simp at e1
        | succ k =>
          obtain ⟨b', ds, q⟩ := h3 k j b ds0 (by simpa using e1) e2
          exact ⟨b', ds, by simpa using q⟩
  | .ref i :: rs, a, l, l', hn, h => by
    have hn' : i ∉ refs rs ∧ nodupB (refs rs) = true := by simpa [refs, nodupB] using hn
    simp only [given] at h
    split at h
    · rename_i bb ds a'
      split at h
      · rename_i b ds0 hl
        obtain ⟨h1, h2, h3⟩ := given_spec (rs := rs) hn'.2 h
        have hil := lt_of_get hl
        refine ⟨by rw [h1, List.length_set], fun j s e => ?_, fun k j b2 ds2 e1 e2 => ?_⟩
        · rcases h2 j s e with ⟨k, b', b2, ds2, ds3, q1, q2, q3, q4⟩ | ⟨q1, q2⟩
          · have ne : i ≠ j := fun z => hn'.1 (z ▸ refs_mem q1)
            rw [List.getElem?_set_ne ne] at q3
            exact .inl ⟨k + 1, b', b2, ds2, ds3, by simpa using q1, by simpa using q2, q3, q4⟩
          · rcases getset q1 with ⟨rfl, rfl, _⟩ | ⟨ne, q1⟩
            · exact .inl ⟨0, bb, b, ds, ds0, by simp, by simp, hl, rfl⟩
            · refine .inr ⟨q1, fun k e => ?_⟩
              cases k with
              | zero => simp at e; exact absurd e ne
              | succ k => exact q2 k (by simpa using e)
        · cases k with
          | zero => exact ⟨bb, ds, by simp⟩
          | succ k =>
            have e1' : rs[k]? = some (.ref j) := by simpa using e1
            have ne : i ≠ j := fun z => hn'.1 (z ▸ refs_mem e1')
            obtain ⟨b', ds, q⟩ := h3 k j b2 ds2 e1' (by rw [List.getElem?_set_ne ne]; exact e2)
            exact ⟨b', ds, by simpa using q⟩
      · cases h
    · rename_i ns a'
      split at h
      · rename_i ns' hl
        obtain ⟨h1, h2, h3⟩ := given_spec (rs := rs) hn'.2 h
        refine ⟨h1, fun j s e => ?_, fun k j b2 ds2 e1 e2 => ?_⟩
        · rcases h2 j s e with ⟨k, b', b2, ds2, ds3, q1, q2, q3, q4⟩ | ⟨q1, q2⟩
          · exact .inl ⟨k + 1, b', b2, ds2, ds3, by simpa using q1, by simpa using q2, q3, q4⟩
          · refine .inr ⟨q1, fun k e => ?_⟩
            cases k with
            | zero =>
              simp at e; subst e
              rw [hl] at q1; cases q1
              exact ⟨ns', rfl⟩
            | succ k => exact q2 k (by simpa using e)
        · cases k with
          | zero =>
            simp at e1; subst e1
            rw [hl] at e2; cases e2
          | succ k =>
            obtain ⟨b', ds, q⟩ := h3 k j b2 ds2 (by simpa using e1) e2
            exact ⟨b', ds, by simpa using q⟩
      · cases h
    · cases h
theorem map_some_get {vs : List V} {k : Nat} {v : V} (h : (vs.map some)[k]? = some (some v)) : vs[k]? = some v := by
  rw [List.getElem?_map] at h
  cases e : vs[k]? with
  | none => rw [e] at h; cases h
  | some w => rw [e] at h; cases h; rfl
theorem get_map_some {vs : List V} {k : Nat} {v : V} (h : vs[k]? = some v) : (vs.map some)[k]? = some (some v) := by
  rw [List.getElem?_map, h]; rfl

section
variable {rs : List R} {vs : List V} {a : Loc}
/-- the callee's live lists: the caller's but those lent -/
def Lc (L0 : Addr → Prop) (loc : Loc) (σ : Sg) (a : Loc) (vs : List V) (c : Addr) : Prop := Lv L0 loc σ c ∧ ¬ OwnAt a (vs.map some) c
theorem arg_own (R : Rel P L0 loc σ H) (rr : RepRs P L0 loc σ H rs vs) (ha : argsOf loc rs = some a) {k : Nat} {b : Bool} {ds : List D} (e : a[k]? = some (.own b ds)) :
    ∃ (j : Nat) (b' : Bool) (c : Addr) (ws : List V), rs[k]? = some (.ref j) ∧ loc[j]? = some (.own b' ds) ∧ σ[j]? = some (some (.ref c)) ∧ vs[k]? = some (.ref c) ∧ H c = some (.lst ws) ∧ ¬ L0 c ∧ Reps P (Lv L0 loc σ) H ds ws ∧ b = true := by
  obtain ⟨r, e1, e2⟩ := argsOf_get ha e
  obtain ⟨v, e3, e4⟩ := rr.get e1
  cases r with
  | val d => cases e2
  | new d => cases e2
  | ref j =>
    simp only [argOf] at e2
    split at e2
    · rename_i b' ds' hl
      cases e2
      obtain ⟨c, ws, q1, q2, q3, q4⟩ := R.own _ _ _ hl
      have e4' : σ[j]? = some (some v) := e4
      rw [q1] at e4'; cases e4'
      exact ⟨j, b', c, ws, e1, hl, q1, e3, q2, q3, q4, rfl⟩
    · cases e2
    · cases e2
theorem lc_le (R : Rel P L0 loc σ H) (rr : RepRs P L0 loc σ H rs vs) (ha : argsOf loc rs = some a) : ∀ c, Lv (Lc L0 loc σ a vs) a (vs.map some) c → Lv L0 loc σ c := fun c z => by
  rcases z with z | ⟨k, b, ds, e1, e2⟩
  · exact z.1
  · obtain ⟨j, b', c', ws, q1, q2, q3, q4, _⟩ := arg_own R rr ha e1
    rw [map_some_get e2] at q4; cases q4
    exact .inr ⟨j, b', ds, q2, q3⟩
theorem lc_ge : ∀ c, Lv L0 loc σ c → Lv (Lc L0 loc σ a vs) a (vs.map some) c := fun c z => by
  by_cases h : OwnAt a (vs.map some) c
  · exact .inr h
  · exact .inl ⟨z, h⟩
/-- the callee's arguments -/
theorem args_rel (R : Rel P L0 loc σ H) (rr : RepRs P L0 loc σ H rs vs) (ha : argsOf loc rs = some a) (hn : nodupB (refs rs) = true) : Rel P (Lc L0 loc σ a vs) a (vs.map some) H := by
  have le := lc_le R rr ha
  refine ⟨by rw [← argsOf_len ha, rr.length, List.length_map], fun c z => R.lv z.1, fun k d e => ?_, fun k b ds e => ?_, fun i j b c ds es w e1 e2 e3 e4 => ?_, fun k ns e => ?_⟩
  · obtain ⟨r, e1, e2⟩ := argsOf_get ha e
    obtain ⟨v, e3, e4⟩ := rr.get e1
    refine ⟨v, get_map_some e3, ?_⟩
    cases r with
    | val d' => cases e2; exact Rep.weak le e4
    | new d' => cases e2; exact Rep.weak le e4
    | ref j =>
      simp only [argOf] at e2
      split at e2 <;> cases e2
  · obtain ⟨j, b', c, ws, q1, q2, q3, q4, q5, q6, q7, _⟩ := arg_own R rr ha e
    exact ⟨c, ws, get_map_some q4, q5, fun z => z.2 ⟨k, b, ds, e, get_map_some q4⟩, Reps.weak le q7⟩
  · obtain ⟨j1, b1, c1, w1, q1, q2, q3, q4, _⟩ := arg_own R rr ha e1
    obtain ⟨j2, b2, c2, w2, p1, p2, p3, p4, _⟩ := arg_own R rr ha e2
    rw [map_some_get e3] at q4; cases q4
    rw [map_some_get e4] at p4; cases p4
    have := R.inj _ _ _ _ _ _ _ q2 p2 q3 p3
    subst this
    exact refs_inj hn q1 p1
  · obtain ⟨r, e1, e2⟩ := argsOf_get ha e
    obtain ⟨v, e3, e4⟩ := rr.get e1
    cases r with
    | val d' => cases e2
    | new d' => cases e2
    | ref j =>
      simp only [argOf] at e2
      split at e2
      · cases e2
      · rename_i ns' hl
        cases e2
        obtain ⟨c, q1, q2⟩ := R.scr _ _ hl
        have e4' : σ[j]? = some (some v) := e4
        rw [q1] at e4'; cases e4'
        exact ⟨c, get_map_some e3, q2.keep (fun _ _ z _ => z) fun c z => .inl (le c z)⟩
      · cases e2
/-- behind the call -/
theorem call_post {a' : Loc} {r : R} {v : V} (R : Rel P L0 loc σ H) (rr : RepRs P L0 loc σ H rs vs) (ha : argsOf loc rs = some a) (hn : nodupB (refs rs) = true) (hg : given rs a' loc = some loc') (hr : ∀ i, r ≠ .ref i)
    (p : EvPost P (Lc L0 loc σ a vs) a (vs.map some) H a' r v H') : EvPost P L0 loc σ H loc' r v H' := by
  have le := lc_le R rr ha
  obtain ⟨g1, g2, g3⟩ := given_spec hn hg
  have keep : ∀ c o, H c = some o → ¬ OwnAt loc σ c → H' c = some o := fun c o e n => p.keep c o e fun ⟨k, b, ds, e1, e2⟩ => by
    obtain ⟨j, b', c', ws, q1, q2, q3, q4, _⟩ := arg_own R rr ha e1
    rw [map_some_get e2] at q4; cases q4
    exact n ⟨j, b', ds, q2, q3⟩
  have kp : ∀ c o, H c = some o → ¬ Lv L0 loc σ c → H' c = some o := fun c o e n => keep c o e fun z => n (.inr z)
  have own : ∀ c, OwnAt loc' σ c → OwnAt loc σ c := fun c ⟨j, b, ds, e1, e2⟩ => by
    rcases g2 j _ e1 with ⟨k, b', b2, ds2, ds0, q1, q2, q3, q4⟩ | ⟨q1, q2⟩
    · exact ⟨j, b2, ds0, q3, e2⟩
    · exact ⟨j, b, ds, q1, e2⟩
  -- what is live for the caller behind the call is live for the callee behind it
  have ge : ∀ c, Lv L0 loc' σ c → Lv (Lc L0 loc σ a vs) a' (vs.map some) c := fun c z => by
    have z' : Lv L0 loc σ c := z.imp id (own c)
    by_cases h : OwnAt a (vs.map some) c
    · obtain ⟨k, b, ds, e1, e2⟩ := h
      obtain ⟨j, b', c', ws, q1, q2, q3, q4, _⟩ := arg_own R rr ha e1
      obtain ⟨b3, ds3, q5⟩ := g3 k j b' ds q1 q2
      exact .inr ⟨k, b3, ds3, q5, e2⟩
    · exact .inl ⟨z', h⟩
  -- the caller's relation, with more that is live and new
  have main : ∀ E : Addr → Prop, (∀ c, E c → H c = none ∧ ∃ o, H' c = some o) → Rel P (fun c => Lc L0 loc σ a vs c ∨ E c) a' (vs.map some) H' → Rel P (fun c => L0 c ∨ E c) loc' σ H' := fun E hE R' => by
    have lE : ∀ c, Lv (fun c => L0 c ∨ E c) loc' σ c → Lv L0 loc σ c ∨ H c = none := fun c z => by
      rcases z with (z | z) | z
      · exact .inl (.inl z)
      · exact .inr (hE c z).1
      · exact .inl (.inr (own c z))
    have gE : ∀ c, Lv (fun c => L0 c ∨ E c) loc' σ c → Lv (fun c => Lc L0 loc σ a vs c ∨ E c) a' (vs.map some) c := fun c z => by
      rcases z with (z | z) | z
      · rcases ge c (.inl z) with y | y
        · exact .inl (.inl y)
        · exact .inr y
      · exact .inl (.inr z)
      · rcases ge c (.inr z) with y | y
        · exact .inl (.inl y)
        · exact .inr y
    refine ⟨by rw [g1]; exact R.len, fun c z => ?_, fun j d e => ?_, fun j b ds e => ?_, fun i j b c ds es w e1 e2 e3 e4 => ?_, fun j ns e => ?_⟩
    · rcases z with z | z
      · obtain ⟨o, e⟩ := R.l0 c z
        exact p.there c o e
      · exact (hE c z).2
    · rcases g2 j _ e with ⟨k, b', b2, ds2, ds0, q1, q2, q3, q4⟩ | ⟨q1, q2⟩
      · cases q4
      · obtain ⟨v, e1, rp⟩ := R.dat j d q1
        exact ⟨v, e1, Rep.keep kp lE d v rp⟩
    · rcases g2 j _ e with ⟨k, b', b2, ds2, ds0, q1, q2, q3, q4⟩ | ⟨q1, q2⟩
      · cases q4
        obtain ⟨c, ws, u1, u2, u3, u4⟩ := R'.own _ _ _ q2
        obtain ⟨c', ws', w1, w2, w3, w4⟩ := R.own _ _ _ q3
        obtain ⟨v, e3, e4⟩ := rr.get q1
        have e4' : σ[j]? = some (some v) := e4
        rw [w1] at e4'; cases e4'
        rw [map_some_get u1] at e3; cases e3
        refine ⟨c, ws, w1, u2, fun z => ?_, Reps.weak gE u4⟩
        rcases z with z | z
        · exact w3 z
        · rw [(hE c z).1] at w2; cases w2
      · obtain ⟨c, ws, w1, w2, w3, w4⟩ := R.own _ _ _ q1
        have nc : ¬ OwnAt a (vs.map some) c := fun ⟨k, b3, ds3, y1, y2⟩ => by
          obtain ⟨j', b', c', ws', x1, x2, x3, x4, _⟩ := arg_own R rr ha y1
          rw [map_some_get y2] at x4; cases x4
          have := R.inj _ _ _ _ _ _ _ q1 x2 w1 x3
          subst this
          obtain ⟨ns, hns⟩ := q2 k x1
          cases hns
        refine ⟨c, ws, w1, p.keep c _ w2 nc, fun z => ?_, Reps.keep kp lE ds ws w4⟩
        rcases z with z | z
        · exact w3 z
        · rw [(hE c z).1] at w2; cases w2
    · have o1 : ∃ (b' : Bool) (es' : List D), loc[i]? = some (.own b' es') := by
        rcases g2 i _ e1 with ⟨k, b', b2, ds2, ds0, q1, q2, q3, q4⟩ | ⟨q1, q2⟩
        · exact ⟨_, _, q3⟩
        · exact ⟨_, _, q1⟩
      have o2 : ∃ (b' : Bool) (es' : List D), loc[j]? = some (.own b' es') := by
        rcases g2 j _ e2 with ⟨k, b', b2, ds2, ds0, q1, q2, q3, q4⟩ | ⟨q1, q2⟩
        · exact ⟨_, _, q3⟩
        · exact ⟨_, _, q1⟩
      obtain ⟨b1, x1, o1⟩ := o1
      obtain ⟨b2, x2, o2⟩ := o2
      exact R.inj _ _ _ _ _ _ _ o1 o2 e3 e4
    · rcases g2 j _ e with ⟨k, b', b2, ds2, ds0, q1, q2, q3, q4⟩ | ⟨q1, q2⟩
      · cases q4
      · obtain ⟨c, e1, h1⟩ := R.scr j ns q1
        exact ⟨c, e1, h1.keep kp lE⟩
  have noE : ∀ {L1 : Addr → Prop} {l1 : Loc} {s1 : Sg} {h1 : Hp}, Rel P (fun c => L1 c ∨ False) l1 s1 h1 → Rel P L1 l1 s1 h1 := fun {L1 l1 s1 h1} R1 => by
    have : (fun c => L1 c ∨ False) = L1 := by funext c; simp
    rwa [this] at R1
  have toE : ∀ {L1 : Addr → Prop} {l1 : Loc} {s1 : Sg} {h1 : Hp}, Rel P L1 l1 s1 h1 → Rel P (fun c => L1 c ∨ False) l1 s1 h1 := fun {L1 l1 s1 h1} R1 => by
    have : (fun c => L1 c ∨ False) = L1 := by funext c; simp
    rw [this]; exact R1
  refine ⟨noE (main (fun _ => False) (fun _ z => z.elim) (toE p.rel)), keep, own, ?_, p.there, p.fresh, fun i ds e => ?_, fun i s e n => ?_⟩
  · cases r with
    | val d => exact Rep.weak ge p.rep
    | ref i => exact absurd rfl (hr i)
    | new ds =>
      obtain ⟨c, ws, rfl, q1, q2, q3, q4⟩ := p.rep
      have hf := p.fresh ds c rfl rfl
      refine ⟨c, ws, rfl, q1, fun z => q2 (ge c z), Reps.weak (fun b z => z.imp (ge b) id) q3, main (fun b => b = c) (fun b z => ?_) q4⟩
      subst z; exact ⟨hf, _, q1⟩
  · have hl : i < loc'.length := by rw [g1]; exact lt_of_get e
    have e' := List.getElem?_eq_getElem hl
    rcases g2 i _ e' with ⟨k, b', b2, ds2, ds0, q1, q2, q3, q4⟩ | ⟨q1, q2⟩
    · rw [e] at q3; cases q3
      rw [q4] at e'
      exact ⟨_, e'⟩
    · rw [e] at q1
      exact ⟨ds, by rw [e', ← q1]⟩
  · have hl : i < loc'.length := by rw [g1]; exact lt_of_get e
    have e' := List.getElem?_eq_getElem hl
    rcases g2 i _ e' with ⟨k, b', b2, ds2, ds0, q1, q2, q3, q4⟩ | ⟨q1, q2⟩
    · rw [e] at q3; cases q3; exact absurd rfl (n _ _)
    · rw [e] at q1
      rw [e', ← q1]
end
/-- a call's reading, from its arguments' -/
theorem call_read {C : Loc → Option (R × Loc)} {ar : Nat} {gs : Loc → Option (List R × Loc)} {g : Loc → Option (R × Loc)} {E : XK} (hC : ∀ a r a', C a = some (r, a') → a.length = ar ∧ ∀ i, r ≠ .ref i)
    (hg : ∀ loc r loc', g loc = some (r, loc') → ∃ rs l1 a a', gs loc = some (rs, l1) ∧ nodupB (refs rs) = true ∧ argsOf l1 rs = some a ∧ C a = some (r, a') ∧ given rs a' l1 = some loc')
    {Q : VK} (h : tE P g σ H Q) : tA P gs σ H fun vs H1 => spOf P C ar vs H1 Q E := by
  obtain ⟨L0, loc, r, loc', R, e, k⟩ := h
  obtain ⟨rs, l1, a, a', h1, h2, h3, h4, h5⟩ := hg _ _ _ e
  obtain ⟨hl, hr⟩ := hC _ _ _ h4
  refine ⟨L0, loc, rs, l1, R, h1, fun vs H1 p1 rr => ⟨?_, Lc L0 l1 σ a vs, a, r, a', args_rel p1.rel rr h3 h2, h4, hr, fun v H2 p2 => ?_⟩⟩
  · rw [← rr.length, argsOf_len h3, hl]
  · exact k v H2 (p1.trans (call_post p1.rel rr h3 h2 h5 hr p2))
end MP

namespace MP
open PySem PySem.Spec PyProof.Rows L2
variable {P : RP} {L L' : Addr → Prop} {H H' : Hp} {L0 : Addr → Prop} {loc loc' : Loc} {σ σ' : Sg}

/-- behind a statement -/
structure StPost (P : RP) (L0 : Addr → Prop) (loc : Loc) (σ : Sg) (H : Hp) (loc' : Loc) (σ' : Sg) (H' : Hp) : Prop where
  rel : Rel P L0 loc' σ' H'
  keep : ∀ b o, H b = some o → ¬ OwnAt loc σ b → H' b = some o
  own : ∀ b, OwnAt loc' σ' b → OwnAt loc σ b ∨ H b = none
  there : ∀ b o, H b = some o → ∃ o', H' b = some o'
  pin : ∀ (i : Nat) (ds : List D), loc[i]? = some (.own true ds) → ∃ ds', loc'[i]? = some (.own true ds') ∧ σ'[i]? = σ[i]?
theorem StPost.refl (R : Rel P L0 loc σ H) : StPost P L0 loc σ H loc σ H := ⟨R, fun _ _ e _ => e, fun _ z => .inl z, fun _ o e => ⟨o, e⟩, fun _ ds e => ⟨ds, e, rfl⟩⟩
theorem StPost.gone {b : Addr} (p : StPost P L0 loc σ H loc' σ' H') (h : H' b = none) : H b = none := by
  cases e : H b with
  | none => rfl
  | some o => obtain ⟨o', e'⟩ := p.there b o e; rw [h] at e'; cases e'
theorem StPost.trans {loc1 : Loc} {σ1 : Sg} {H1 : Hp} (p : StPost P L0 loc σ H loc1 σ1 H1) (q : StPost P L0 loc1 σ1 H1 loc' σ' H') : StPost P L0 loc σ H loc' σ' H' := by
  refine ⟨q.rel, fun b o e n => q.keep b o (p.keep b o e n) fun z => ?_, fun b z => ?_, fun b o e => ?_, fun i ds e => ?_⟩
  · rcases p.own b z with z | z
    · exact n z
    · rw [e] at z; cases z
  · rcases q.own b z with z | z
    · exact p.own b z
    · exact .inr (p.gone z)
  · obtain ⟨o', e'⟩ := p.there b o e
    exact q.there b o' e'
  · obtain ⟨ds1, e1, s1⟩ := p.pin i ds e
    obtain ⟨ds2, e2, s2⟩ := q.pin i ds1 e1
    exact ⟨ds2, e2, s2.trans s1⟩
theorem EvPost.st {r : R} {v : V} (p : EvPost P L0 loc σ H loc' r v H') : StPost P L0 loc σ H loc' σ H' :=
  ⟨p.rel, p.keep, fun b z => .inl (p.own b z), p.there, fun i ds e => by obtain ⟨ds', e'⟩ := p.pin i ds e; exact ⟨ds', e', rfl⟩⟩
theorem StPost.lv (p : StPost P L0 loc σ H loc' σ' H') : ∀ b, Lv L0 loc' σ' b → Lv L0 loc σ b ∨ H b = none := fun b z => by
  rcases z with z | z
  · exact .inl (.inl z)
  · rcases p.own b z with z | z
    · exact .inl (.inr z)
    · exact .inr z
theorem StPost.kp (p : StPost P L0 loc σ H loc' σ' H') : ∀ b o, H b = some o → ¬ Lv L0 loc σ b → H' b = some o := fun b o e n => p.keep b o e fun z => n (.inr z)
/-- the heap grew -/
theorem StPost.grew (R : Rel P L0 loc σ H) (s : Same H H') : StPost P L0 loc σ H loc σ H' :=
  ⟨R.grow s (fun b z => .inl z) fun b z => by obtain ⟨o, e⟩ := R.l0 b z; exact ⟨o, s _ _ e⟩, fun b o e _ => s b o e, fun b z => .inl z, fun b o e => ⟨o, s b o e⟩, fun i ds e => ⟨ds, e, rfl⟩⟩

theorem getsetS {σ : Sg} {i j : Nat} {s t : Option V} (h : (σ.set i s)[j]? = some t) : (i = j ∧ t = s) ∨ (i ≠ j ∧ σ[j]? = some t) := by
  by_cases e : i = j
  · subst e
    by_cases hl : i < σ.length
    · rw [List.getElem?_set_self hl] at h; cases h; exact .inl ⟨rfl, rfl⟩
    · rw [List.getElem?_eq_none (by simpa using hl)] at h; cases h
  · rw [List.getElem?_set_ne e] at h; exact .inr ⟨e, h⟩
theorem free_spec {i : Nat} (h : free loc i = true) : i < loc.length ∧ (∀ ds, loc[i]? ≠ some (.own true ds)) ∧ (∀ ns, loc[i]? ≠ some (.scr ns)) := by
  unfold free at h
  split at h
  · rename_i e; exact ⟨lt_of_get e, fun ds z => (by rw [e] at z; cases z), fun ns z => (by rw [e] at z; cases z)⟩
  · rename_i e; exact ⟨lt_of_get e, fun ds z => (by rw [e] at z; cases z), fun ns z => (by rw [e] at z; cases z)⟩
  · rename_i b ds e
    refine ⟨lt_of_get e, fun ds z => ?_, fun ns z => (by rw [e] at z; cases z)⟩
    rw [e] at z; cases z; cases h
  · cases h
  · cases h
/-- a slot is stored to -/
theorem put_dat {i : Nat} {d : D} {v : V} (R : Rel P L0 loc σ H) (h : put loc i (.dat d) = some loc') (hr : Rep P (Lv L0 loc σ) H d v) : StPost P L0 loc σ H loc' (σ.set i (some v)) H := by
  unfold put at h
  split at h
  · rename_i hf
    cases h
    obtain ⟨hl, nb, ns⟩ := free_spec hf
    have hσ : i < σ.length := R.len ▸ hl
    have own : ∀ b, OwnAt (loc.set i (.dat d)) (σ.set i (some v)) b → OwnAt loc σ b := fun b ⟨j, b', es, e1, e2⟩ => by
      rcases getset e1 with ⟨_, e3, _⟩ | ⟨ne, e1⟩
      · cases e3
      · rw [List.getElem?_set_ne ne] at e2
        exact ⟨j, b', es, e1, e2⟩
    have lv : ∀ b, Lv L0 (loc.set i (.dat d)) (σ.set i (some v)) b → Lv L0 loc σ b := fun b z => z.imp id (own b)
    refine ⟨⟨by simp [R.len], R.l0, fun j d' e => ?_, fun j b ds e => ?_, fun j k b c ds es w e1 e2 e3 e4 => ?_, fun j ns e => ?_⟩, fun _ _ e _ => e, fun b z => .inl (own b z), fun _ o e => ⟨o, e⟩, fun j ds e => ?_⟩
    · rcases getset e with ⟨rfl, e3, _⟩ | ⟨ne, e⟩
      · cases e3
        exact ⟨v, List.getElem?_set_self hσ, Rep.weak lv hr⟩
      · obtain ⟨w, e1, r⟩ := R.dat j d' e
        exact ⟨w, by rw [List.getElem?_set_ne ne]; exact e1, Rep.weak lv r⟩
    · rcases getset e with ⟨rfl, e3, _⟩ | ⟨ne, e⟩
      · cases e3
      · obtain ⟨a, vs, e1, h1, n1, r⟩ := R.own j b ds e
        exact ⟨a, vs, by rw [List.getElem?_set_ne ne]; exact e1, h1, n1, Reps.weak lv r⟩
    · rcases getset e1 with ⟨_, z, _⟩ | ⟨n1, e1⟩
      · cases z
      rcases getset e2 with ⟨_, z, _⟩ | ⟨n2, e2⟩
      · cases z
      rw [List.getElem?_set_ne n1] at e3
      rw [List.getElem?_set_ne n2] at e4
      exact R.inj _ _ _ _ _ _ _ e1 e2 e3 e4
    · rcases getset e with ⟨rfl, e3, _⟩ | ⟨ne, e⟩
      · cases e3
      · obtain ⟨a, e1, h1⟩ := R.scr j ns e
        exact ⟨a, by rw [List.getElem?_set_ne ne]; exact e1, h1.keep (fun _ _ z _ => z) fun b z => .inl (lv b z)⟩
    · have ne : i ≠ j := fun z => by subst z; exact nb ds e
      exact ⟨ds, by rw [List.getElem?_set_ne ne]; exact e, by rw [List.getElem?_set_ne ne]⟩
  · cases h
theorem put_own {loc1 : Loc} {H1 : Hp} {i : Nat} {ds : List D} {v : V} (p : EvPost P L0 loc σ H loc1 (.new ds) v H1) (h : put loc1 i (.own false ds) = some loc') : StPost P L0 loc σ H loc' (σ.set i (some v)) H1 := by
  unfold put at h
  split at h
  · rename_i hf
    cases h
    obtain ⟨hl, nb, ns⟩ := free_spec hf
    obtain ⟨a, vs, rfl, h1, h2, h3, R⟩ := p.rep
    have hσ : i < σ.length := R.len ▸ hl
    have na : ¬ OwnAt loc1 σ a := fun z => h2 (.inr z)
    have own : ∀ b, OwnAt (loc1.set i (.own false ds)) (σ.set i (some (.ref a))) b → OwnAt loc1 σ b ∨ b = a := fun b ⟨j, b', es, e1, e2⟩ => by
      rcases getset e1 with ⟨rfl, e3, _⟩ | ⟨ne, e1⟩
      · rw [List.getElem?_set_self hσ] at e2
        cases e2; exact .inr rfl
      · rw [List.getElem?_set_ne ne] at e2
        exact .inl ⟨j, b', es, e1, e2⟩
    have lv : ∀ b, Lv L0 (loc1.set i (.own false ds)) (σ.set i (some (.ref a))) b → Lv (fun b => L0 b ∨ b = a) loc1 σ b := fun b z => by
      rcases z with z | z
      · exact .inl (.inl z)
      · rcases own b z with z | z
        · exact .inr z
        · exact .inl (.inr z)
    have lv2 : ∀ b, Lv L0 (loc1.set i (.own false ds)) (σ.set i (some (.ref a))) b → Lv L0 loc1 σ b ∨ b = a := fun b z => by
      rcases z with z | z
      · exact .inl (.inl z)
      · rcases own b z with z | z
        · exact .inl (.inr z)
        · exact .inr z
    refine ⟨⟨by simp [R.len], p.rel.l0, fun j d' e => ?_, fun j b es e => ?_, fun j k b c es fs w e1 e2 e3 e4 => ?_, fun j ns e => ?_⟩, p.keep, fun b z => ?_, p.there, fun j es e => ?_⟩
    · rcases getset e with ⟨rfl, e3, _⟩ | ⟨ne, e⟩
      · cases e3
      · obtain ⟨w, e1, r⟩ := R.dat j d' e
        exact ⟨w, by rw [List.getElem?_set_ne ne]; exact e1, Rep.weak lv r⟩
    · rcases getset e with ⟨rfl, e3, _⟩ | ⟨ne, e⟩
      · cases e3
        exact ⟨a, vs, List.getElem?_set_self hσ, h1, fun z => h2 (.inl z), Reps.weak lv2 h3⟩
      · obtain ⟨a', vs', e1, h1', n1, r⟩ := R.own j b es e
        exact ⟨a', vs', by rw [List.getElem?_set_ne ne]; exact e1, h1', fun z => n1 (.inl z), Reps.weak lv r⟩
    · rcases getset e1 with ⟨rfl, z, _⟩ | ⟨n1, e1⟩
      · rw [List.getElem?_set_self hσ] at e3; cases e3
        rcases getset e2 with ⟨rfl, z2, _⟩ | ⟨n2, e2⟩
        · rfl
        · rw [List.getElem?_set_ne n2] at e4
          exact absurd ⟨_, _, _, e2, e4⟩ na
      · rw [List.getElem?_set_ne n1] at e3
        rcases getset e2 with ⟨rfl, z2, _⟩ | ⟨n2, e2⟩
        · rw [List.getElem?_set_self hσ] at e4; cases e4
          exact absurd ⟨_, _, _, e1, e3⟩ na
        · rw [List.getElem?_set_ne n2] at e4
          exact R.inj _ _ _ _ _ _ _ e1 e2 e3 e4
    · rcases getset e with ⟨rfl, e3, _⟩ | ⟨ne, e⟩
      · cases e3
      · obtain ⟨a', e1, h1'⟩ := R.scr j ns e
        exact ⟨a', by rw [List.getElem?_set_ne ne]; exact e1, h1'.keep (fun _ _ z _ => z) fun b z => .inl (lv b z)⟩
    · rcases own b z with z | rfl
      · exact .inl (p.own b z)
      · exact .inr (p.fresh ds b rfl rfl)
    · obtain ⟨es', e'⟩ := p.pin j es e
      have ne : i ≠ j := fun z => by subst z; exact nb es' e'
      exact ⟨es', by rw [List.getElem?_set_ne ne]; exact e', by rw [List.getElem?_set_ne ne]⟩
  · cases h

theorem own_before {i : Nat} {b : Bool} {ds : List D} {r : R} {v : V} {R0 : Rel P L0 loc σ H} (p : EvPost P L0 loc σ H loc' r v H') (h : loc'[i]? = some (.own b ds)) : ∃ b' ds', loc[i]? = some (.own b' ds') := by
  have hl : i < loc.length := by
    have h1 := lt_of_get h
    rw [p.rel.len, ← R0.len] at h1
    exact h1
  have e := List.getElem?_eq_getElem hl
  cases hs : loc[i] with
  | own b' ds' => rw [hs] at e; exact ⟨b', ds', e⟩
  | none =>
    rw [hs] at e
    have := p.fix i _ e (fun _ _ z => nomatch z)
    rw [h] at this; cases this
  | dat d =>
    rw [hs] at e
    have := p.fix i _ e (fun _ _ z => nomatch z)
    rw [h] at this; cases this
  | scr ns =>
    rw [hs] at e
    have := p.fix i _ e (fun _ _ z => nomatch z)
    rw [h] at this; cases this

/-! ### what follows a statement -/
def Good (P : RP) (L0 : Addr → Prop) (loc : Loc) (σ : Sg) (H : Hp) (D : Ends) : Out → Prop
  | .nx l => ∀ σ' H', StPost P L0 loc σ H l σ' H' → D.nx σ' H'
  | .bk l => ∀ σ' H', StPost P L0 loc σ H l σ' H' → D.bk σ' H'
  | .ct l => ∀ σ' H', StPost P L0 loc σ H l σ' H' → D.ct σ' H'
  | .rt r l => (∀ i, r ≠ .ref i) ∧ ∀ v σ' H', StPost P L0 loc σ H l σ' H' → RepR P L0 l σ' H' r v → (∀ ds p, r = .new ds → v = .ref p → H p = none) → D.rt v H'
theorem Good.step {D : Ends} {o : Out} {loc1 : Loc} {σ1 : Sg} {H1 : Hp} (g : Good P L0 loc σ H D o) (p : StPost P L0 loc σ H loc1 σ1 H1) : Good P L0 loc1 σ1 H1 D o := by
  cases o with
  | nx l => exact fun σ' H' q => g σ' H' (p.trans q)
  | bk l => exact fun σ' H' q => g σ' H' (p.trans q)
  | ct l => exact fun σ' H' q => g σ' H' (p.trans q)
  | rt r l => exact ⟨g.1, fun v σ' H' q rr fr => g.2 v σ' H' (p.trans q) rr fun ds c e1 e2 => p.gone (fr ds c e1 e2)⟩
def tS (P : RP) (g : Loc → Option Out) : TS := fun D σ H => ∃ L0 loc out, Rel P L0 loc σ H ∧ g loc = some out ∧ Good P L0 loc σ H D out

theorem s_nil {D : Ends} {g : Loc → Option Out} (hg : ∀ loc, g loc = some (.nx loc)) (h : tS P g D σ H) : tNext D σ H := by
  obtain ⟨L0, loc, out, R, e, k⟩ := h
  rw [hg] at e; cases e
  exact k σ H (.refl R)
theorem s_seq {D : Ends} {g g1 g2 : Loc → Option Out} (hg : ∀ loc o, g loc = some o → (∃ l1, g1 loc = some (.nx l1) ∧ g2 l1 = some o) ∨ (g1 loc = some o ∧ ∀ l, o ≠ .nx l)) (h : tS P g D σ H) : tSeq (tS P g1) (tS P g2) D σ H := by
  obtain ⟨L0, loc, out, R, e, k⟩ := h
  rcases hg _ _ e with ⟨l1, h1, h2⟩ | ⟨h1, h2⟩
  · exact ⟨L0, loc, _, R, h1, fun σ1 H1 p => ⟨L0, l1, out, p.rel, h2, k.step p⟩⟩
  · refine ⟨L0, loc, out, R, h1, ?_⟩
    cases out with
    | nx l => exact absurd rfl (h2 l)
    | bk l => exact k
    | ct l => exact k
    | rt r l => exact k

/-! ### targets -/
def pslots : Pat → List Nat
  | .v i => [i]
  | .tup is => is
def tG (P : RP) (p : Pat) : TG := fun v σ H Q => ∃ L0 loc d loc', Rel P L0 loc σ H ∧ Rep P (Lv L0 loc σ) H d v ∧ bindP p d loc = some loc' ∧ ∀ σ', StPost P L0 loc σ H loc' σ' H → σ'.length = σ.length → (∀ i, i ∉ pslots p → σ'[i]? = σ[i]?) → Q σ' H
def gsOf : List Nat → TGs
  | [] => gNil
  | i :: is => gCons (gName i) (gsOf is)
theorem g_name {i : Nat} {v : V} {Q : Sg → Hp → Prop} (h : tG P (.v i) v σ H Q) : gName i v σ H Q := by
  obtain ⟨L0, loc, d, loc', R, rp, e, k⟩ := h
  exact k _ (put_dat R e rp) (by simp) fun j hj => by
    have : i ≠ j := fun z => hj (by simp [pslots, z])
    rw [List.getElem?_set_ne this]
theorem g_names : ∀ {is : List Nat} {ds : List D} {vs : List V} {loc loc' : Loc} {σ : Sg} {Q : Sg → Hp → Prop}, Rel P L0 loc σ H → Reps P (Lv L0 loc σ) H ds vs → puts is ds loc = some loc' → (∀ σ', StPost P L0 loc σ H loc' σ' H → σ'.length = σ.length → (∀ i, i ∉ is → σ'[i]? = σ[i]?) → Q σ' H) → gsOf is vs σ H Q
  | [], ds, vs, loc, loc', σ, Q, R, r, e, k => by
    cases ds with
    | nil =>
      unfold Reps at r
      simp only [puts] at e
      cases e
      exact ⟨r, k σ (.refl R) rfl fun _ _ => rfl⟩
    | cons _ _ => simp only [puts] at e; cases e
  | i :: is, ds, vs, loc, loc', σ, Q, R, r, e, k => by
    cases ds with
    | nil => simp only [puts] at e; cases e
    | cons d ds =>
      unfold Reps at r
      obtain ⟨v, w, rfl, r1, r2⟩ := r
      simp only [puts] at e
      split at e
      · rename_i l1 e1
        have p := put_dat R e1 r1
        refine ⟨v, w, rfl, ?_⟩
        exact g_names p.rel (Reps.keep p.kp p.lv _ _ r2) e fun σ' q hl hi => k σ' (p.trans q) (by rw [hl]; simp) fun j hj => by
          simp only [List.mem_cons, not_or] at hj
          rw [hi j hj.2, List.getElem?_set_ne (Ne.symm hj.1)]
      · cases e
theorem puts_len : ∀ {is : List Nat} {ds : List D} {loc loc' : Loc}, puts is ds loc = some loc' → ds.length = is.length
  | [], ds, loc, loc', e => by
    cases ds with
    | nil => rfl
    | cons _ _ => simp only [puts] at e; cases e
  | i :: is, ds, loc, loc', e => by
    cases ds with
    | nil => simp only [puts] at e; cases e
    | cons d ds =>
      simp only [puts] at e
      split at e
      · simp [puts_len e]
      · cases e
theorem g_tup {K : PySem.W.Frag} (hK : P.K = K) {is : List Nat} {v : V} {Q : Sg → Hp → Prop} (h : tG P (.tup is) v σ H Q) : gTup K is.length (gsOf is) v σ H Q := by
  obtain ⟨L0, loc, d, loc', R, rp, e, k⟩ := h
  cases d with
  | tup ds =>
    unfold Rep at rp
    obtain ⟨a, vs, rfl, t, r⟩ := rp
    simp only [bindP] at e
    exact ⟨a, vs, rfl, hK ▸ t.sq, by rw [← r.length, puts_len e], g_names R r e k⟩
  | _ => simp only [bindP] at e; cases e

/-! ### what is walked -/
def ItOk (P : RP) (L1 : Addr → Prop) (H1 : Hp) (J : It) (items : List D) : Prop := ∀ H2, (∀ c o, H1 c = some o → ¬ L1 c → H2 c = some o) → ∀ i,
  (i < items.length → J.go i H2 ∧ ∀ x H3, J.yld i H2 x H3 → Same H2 H3 ∧ ∃ d, items[i]? = some d ∧ ∀ L2 : Addr → Prop, (∀ b, L2 b → L1 b ∨ H1 b = none) → (∀ b, L2 b → ∃ o, H2 b = some o) → Rep P L2 H3 d x) ∧ (items.length ≤ i → J.stop i H2)
def tI (P : RP) (gi : Loc → Option (List D × Loc)) : TI := fun σ H R => ∃ L0 loc items loc', Rel P L0 loc σ H ∧ gi loc = some (items, loc') ∧ ∀ J H', EvPost P L0 loc σ H loc' (.val .non) .non H' → ItOk P (Lv L0 loc' σ) H' J items → R J H'
theorem _root_.L2.PI.imp {X : Cx} {tg e : Expr} {t t' : TI} (h : PI X tg e t) (w : ∀ σ H Q, t' σ H Q → t σ H Q) : PI X tg e t' := ⟨fun pins s σ H Q I q => h.run pins s σ H Q I (w σ H Q q)⟩

/-- for -/
theorem s_loop {D : Ends} {gi : Loc → Option (List MP.D × Loc)} {body : Loc → Option Out} {p : Pat} {g : Loc → Option Out} (hg : ∀ loc o, g loc = some o → ∃ items l1, gi loc = some (items, l1) ∧ forRun p body items l1 = some o)
    (h : tS P g D σ H) : tFor (tI P gi) (tG P p) (tS P body) D σ H := by
  obtain ⟨L0, loc, out, R, e, k⟩ := h
  obtain ⟨items, l1, e1, e2⟩ := hg _ _ e
  refine ⟨L0, loc, items, l1, R, e1, fun J H1 p1 ok => ?_⟩
  refine ⟨fun i m σ2 H2 => m = items.length - i ∧ i ≤ items.length ∧ ∃ l2 o, StPost P L0 l1 σ H1 l2 σ2 H2 ∧ forRun p body (items.drop i) l2 = some o ∧ Good P L0 l2 σ2 H2 D o,
    ⟨_, rfl, Nat.zero_le _, l1, out, .refl p1.rel, by rw [List.drop_zero]; exact e2, k.step p1.st⟩, ?_⟩
  rintro i m σ2 H2 ⟨rfl, hi, l2, o, sp, e3, gd⟩
  have ok2 := ok H2 sp.kp i
  by_cases hlt : i < items.length
  · obtain ⟨go, yld⟩ := ok2.1 hlt
    refine .inr ⟨go, fun σ' H' => ∃ l' o', StPost P L0 l1 σ H1 l' σ' H' ∧ forRun p body (items.drop (i + 1)) l' = some o' ∧ Good P L0 l' σ' H' D o', fun σ' H' ⟨l', o', q1, q2, q3⟩ => ⟨_, by omega, rfl, hlt, l', o', q1, q2, q3⟩, fun x H3 y => ?_⟩
    obtain ⟨sm, d, ed, rp⟩ := yld x H3 y
    have hd : items.drop i = d :: items.drop (i + 1) := by
      have := List.drop_eq_getElem_cons hlt
      rw [List.getElem?_eq_getElem hlt] at ed
      cases ed
      exact this
    rw [hd] at e3
    simp only [forRun] at e3
    split at e3
    · cases e3
    · rename_i l3 e4
      have g3 := StPost.grew sp.rel sm
      refine ⟨L0, l2, d, l3, g3.rel, rp _ sp.lv (fun b z => sp.rel.lv z), e4, fun σ4 p4 _ _ => ?_⟩
      have p5 := g3.trans p4
      have gd5 := gd.step p5
      have sp5 := sp.trans p5
      split at e3
      · rename_i l6 e5
        exact ⟨L0, l3, _, p5.rel, e5, fun σ7 H7 p7 => ⟨l6, o, sp5.trans p7, e3, gd5.step p7⟩⟩
      · rename_i l6 e5
        exact ⟨L0, l3, _, p5.rel, e5, fun σ7 H7 p7 => ⟨l6, o, sp5.trans p7, e3, gd5.step p7⟩⟩
      · rename_i l6 e5
        cases e3
        exact ⟨L0, l3, _, p5.rel, e5, gd5⟩
      · rename_i r l6 e5
        cases e3
        exact ⟨L0, l3, _, p5.rel, e5, gd5⟩
      · cases e3
  · have hx : i = items.length := by omega
    subst hx
    rw [List.drop_length] at e3
    cases e3
    exact .inl ⟨ok2.2 (Nat.le_refl _), gd σ2 H2 (.refl sp.rel)⟩
/-- a test's reading -/
def tT (P : RP) (g : Loc → Option (Bool × Loc)) : TT := fun σ H Q => ∃ L0 loc k loc', Rel P L0 loc σ H ∧ g loc = some (k, loc') ∧ ∀ H', EvPost P L0 loc σ H loc' (.val .non) .non H' → Q k H'
theorem s_while {D : Ends} {c : Loc → Option (Bool × Loc)} {body : Loc → Option Out} {n : Nat} {g : Loc → Option Out} (hg : ∀ loc o, g loc = some o → whRun c body n loc = some o)
    (h : tS P g D σ H) : tWhile (tT P c) (tS P body) D σ H := by
  obtain ⟨L0, loc, out, R, e, k⟩ := h
  have e2 := hg _ _ e
  refine ⟨fun m σ2 H2 => ∃ l2 o, Rel P L0 l2 σ2 H2 ∧ whRun c body m l2 = some o ∧ Good P L0 l2 σ2 H2 D o, ⟨n, loc, out, R, e2, k⟩, ?_⟩
  rintro m σ2 H2 ⟨l2, o, R2, e3, gd⟩
  cases m with
  | zero => simp only [whRun] at e3; cases e3
  | succ m =>
    simp only [whRun] at e3
    split at e3
    · rename_i l3 e4
      refine ⟨L0, l2, true, l3, R2, e4, fun H3 p3 => ?_⟩
      refine iteT ?_
      have gd3 := gd.step p3.st
      refine ⟨fun σ' H' => ∃ l' o', Rel P L0 l' σ' H' ∧ whRun c body m l' = some o' ∧ Good P L0 l' σ' H' D o', fun σ' H' q => ⟨m, Nat.lt_succ_self _, q⟩, ?_⟩
      split at e3
      · rename_i l6 e5
        exact ⟨L0, l3, _, p3.rel, e5, fun σ7 H7 p7 => ⟨l6, o, p7.rel, e3, gd3.step p7⟩⟩
      · rename_i l6 e5
        exact ⟨L0, l3, _, p3.rel, e5, fun σ7 H7 p7 => ⟨l6, o, p7.rel, e3, gd3.step p7⟩⟩
      · rename_i l6 e5
        cases e3
        exact ⟨L0, l3, _, p3.rel, e5, gd3⟩
      · rename_i r l6 e5
        cases e3
        exact ⟨L0, l3, _, p3.rel, e5, gd3⟩
      · cases e3
    · rename_i l3 e4
      cases e3
      refine ⟨L0, l2, false, l3, R2, e4, fun H3 p3 => ?_⟩
      exact iteF (gd σ2 H3 p3.st)
    · cases e3
/-- assignments -/
theorem s_set {D : Ends} {p : Pat} {ge : Loc → Option (R × Loc)} {g : Loc → Option Out} (hg : ∀ loc o, g loc = some o → ∃ r l1 d l2, ge loc = some (r, l1) ∧ toVal r = some d ∧ bindP p d l1 = some l2 ∧ o = .nx l2)
    (h : tS P g D σ H) : tAsg (tE P ge) (tG P p) D σ H := by
  obtain ⟨L0, loc, out, R, e, k⟩ := h
  obtain ⟨r, l1, d, l2, h1, h2, h3, rfl⟩ := hg _ _ e
  refine ⟨L0, loc, r, l1, R, h1, fun v H1 p1 => ⟨L0, l1, d, l2, p1.rel, toVal_rep p1.rep h2, h3, fun σ2 p2 _ _ => ?_⟩⟩
  exact k σ2 H1 (p1.st.trans p2)
theorem s_own {D : Ends} {i : Nat} {ge : Loc → Option (R × Loc)} {g : Loc → Option Out} (hg : ∀ loc o, g loc = some o → ∃ ds l1 l2, ge loc = some (.new ds, l1) ∧ put l1 i (.own false ds) = some l2 ∧ o = .nx l2)
    (h : tS P g D σ H) : tAsg (tE P ge) (gName i) D σ H := by
  obtain ⟨L0, loc, out, R, e, k⟩ := h
  obtain ⟨ds, l1, l2, h1, h2, rfl⟩ := hg _ _ e
  exact ⟨L0, loc, .new ds, l1, R, h1, fun v H1 p1 => k _ H1 (put_own p1 h2)⟩
theorem s_ex {D : Ends} {ge : Loc → Option (R × Loc)} {g : Loc → Option Out} (hg : ∀ loc o, g loc = some o → ∃ r l1, ge loc = some (r, l1) ∧ o = .nx l1) (h : tS P g D σ H) : tDrop (tE P ge) D σ H := by
  obtain ⟨L0, loc, out, R, e, k⟩ := h
  obtain ⟨r, l1, h1, rfl⟩ := hg _ _ e
  exact ⟨L0, loc, r, l1, R, h1, fun v H1 p1 => k σ H1 p1.st⟩
theorem s_ret {D : Ends} {ge : Loc → Option (R × Loc)} {g : Loc → Option Out} (hg : ∀ loc o, g loc = some o → ∃ r l1, ge loc = some (r, l1) ∧ o = .rt r l1) (h : tS P g D σ H) : tRet (tE P ge) D σ H := by
  obtain ⟨L0, loc, out, R, e, k⟩ := h
  obtain ⟨r, l1, h1, rfl⟩ := hg _ _ e
  exact ⟨L0, loc, r, l1, R, h1, fun v H1 p1 => k.2 v σ H1 p1.st p1.rep p1.fresh⟩
theorem s_retN {D : Ends} {g : Loc → Option Out} (hg : ∀ loc o, g loc = some o → o = .rt (.val .non) loc) (h : tS P g D σ H) : tRetN D σ H := by
  obtain ⟨L0, loc, out, R, e, k⟩ := h
  obtain rfl := hg _ _ e
  exact k.2 .non σ H (.refl R) repR_non (fun _ _ z => nomatch z)
theorem s_if {D : Ends} {c : Loc → Option (Bool × Loc)} {gt gf g : Loc → Option Out} (hg : ∀ loc o, g loc = some o → ∃ k l1, c loc = some (k, l1) ∧ (if k = true then gt l1 else gf l1) = some o) (h : tS P g D σ H) : tIfS (tT P c) (tS P gt) (tS P gf) D σ H := by
  obtain ⟨L0, loc, out, R, e, k⟩ := h
  obtain ⟨b, l1, h1, h2⟩ := hg _ _ e
  refine ⟨L0, loc, b, l1, R, h1, fun H1 p1 => ?_⟩
  cases b with
  | true => exact ⟨L0, l1, out, p1.rel, h2, k.step p1.st⟩
  | false => exact ⟨L0, l1, out, p1.rel, h2, k.step p1.st⟩
theorem s_bk {D : Ends} {g : Loc → Option Out} (hg : ∀ loc o, g loc = some o → o = .bk loc) (h : tS P g D σ H) : tBreak D σ H := by
  obtain ⟨L0, loc, out, R, e, k⟩ := h
  obtain rfl := hg _ _ e
  exact k σ H (.refl R)
theorem s_ct {D : Ends} {g : Loc → Option Out} (hg : ∀ loc o, g loc = some o → o = .ct loc) (h : tS P g D σ H) : tCont D σ H := by
  obtain ⟨L0, loc, out, R, e, k⟩ := h
  obtain rfl := hg _ _ e
  exact k σ H (.refl R)
/-- x[k] = e, x an own list -/
theorem s_put {D : Ends} {i : Nat} {ge gk : Loc → Option (R × Loc)} {g : Loc → Option Out}
    (hg : ∀ loc o, g loc = some o → ∃ r l1 n l2 d b ds b0 ds0, ge loc = some (r, l1) ∧ l1[i]? = some (.own b0 ds0) ∧ gk l1 = some (.val (.int n), l2) ∧ toVal r = some d ∧ l2[i]? = some (.own b ds) ∧ 0 ≤ n ∧ n < ds.length ∧ o = .nx (l2.set i (.own b (ds.set n.toNat d))))
    (h : tS P g D σ H) : tAsg (tE P ge) (gSub (tVar i) (tE P gk) rSetL) D σ H := by
  obtain ⟨L0, loc, out, R, e, k⟩ := h
  obtain ⟨r, l1, n, l2, d, b, ds, b0, ds0, h1, h0, h2, h3, h4, h5, h6, rfl⟩ := hg _ _ e
  refine ⟨L0, loc, r, l1, R, h1, fun v H1 p1 => ?_⟩
  obtain ⟨a, vs0, e1, e2, _⟩ := p1.rel.own _ _ _ h0
  refine ⟨_, e1, L0, l1, _, l2, p1.rel, h2, fun y H2 p2 => ?_⟩
  obtain ⟨a2, vs, e3, e4, e5, e6⟩ := p2.rel.own _ _ _ h4
  rw [e1] at e3; cases e3
  have hy : y = .int n := by
    have := p2.rep
    have h' : Rep P (Lv L0 l2 σ) H2 (.int n) y := this
    unfold Rep at h'; exact h'
  subst hy
  have hl := e6.length
  have rv : Rep P (Lv L0 l2 σ) H2 d v := by
    have := (p1.rep.sett).after p2
    rw [tval_sett h3] at this
    exact this
  refine ⟨a, vs, n, n.toNat, rfl, rfl, e4, ?_, ?_⟩
  · unfold ixN
    rw [if_pos h5, if_pos (by omega)]
  · exact k σ _ ((p1.trans p2).trans (EvPost.mut (r := .val .non) (v := .non) p2.rel h4 e1 (Reps.set n.toNat rv e6) (fun d e => by cases e; unfold Rep; rfl) ⟨_, rfl⟩)).st
end MP

namespace MP
open PySem PySem.Spec PyProof.Rows L2
variable {P : RP} {L L' : Addr → Prop} {H H' : Hp} {L0 : Addr → Prop} {loc loc' : Loc} {σ σ' : Sg}

/-! ### slots forgotten -/
theorem freeD_spec {i : Nat} (h : freeD loc i = true) : i < loc.length ∧ (∀ b ds, loc[i]? ≠ some (.own b ds)) ∧ (∀ ns, loc[i]? ≠ some (.scr ns)) := by
  unfold freeD at h
  split at h
  · rename_i e; exact ⟨lt_of_get e, fun b ds z => (by rw [e] at z; cases z), fun ns z => (by rw [e] at z; cases z)⟩
  · rename_i e; exact ⟨lt_of_get e, fun b ds z => (by rw [e] at z; cases z), fun ns z => (by rw [e] at z; cases z)⟩
  · cases h
theorem freeD_of {i : Nat} (hl : i < loc.length) (h1 : ∀ b ds, loc[i]? ≠ some (.own b ds)) (h2 : ∀ ns, loc[i]? ≠ some (.scr ns)) : freeD loc i = true := by
  have e := List.getElem?_eq_getElem hl
  unfold freeD
  cases hs : loc[i] with
  | none => rw [e, hs]
  | dat d => rw [e, hs]
  | own b ds => rw [hs] at e; exact absurd e (h1 b ds)
  | scr ns => rw [hs] at e; exact absurd e (h2 ns)
theorem wipeL_len (loc : Loc) : ∀ vs : List Nat, (wipeL loc vs).length = loc.length
  | [] => rfl
  | v :: vs => by unfold wipeL; rw [List.length_set, wipeL_len loc vs]
theorem wipeL_out {i : Nat} : ∀ {vs : List Nat}, i ∉ vs → (wipeL loc vs)[i]? = loc[i]?
  | [], _ => rfl
  | v :: vs, h => by
    simp only [List.mem_cons, not_or] at h
    unfold wipeL
    rw [List.getElem?_set_ne (Ne.symm h.1)]
    exact wipeL_out h.2
theorem wipeL_in {i : Nat} : ∀ {vs : List Nat}, i ∈ vs → i < loc.length → (wipeL loc vs)[i]? = some .none
  | [], h, _ => by cases h
  | v :: vs, h, hl => by
    unfold wipeL
    by_cases e : v = i
    · subst e
      exact List.getElem?_set_self (by rw [wipeL_len]; exact hl)
    · rw [List.getElem?_set_ne e]
      exact wipeL_in ((List.mem_cons.mp h).resolve_left (Ne.symm e)) hl
theorem wipe_out' {i : Nat} : ∀ {vs : List Nat}, i ∉ vs → (wipe σ vs)[i]? = σ[i]?
  | [], _ => rfl
  | v :: vs, h => by
    simp only [List.mem_cons, not_or] at h
    unfold wipe
    rw [List.getElem?_set_ne (Ne.symm h.1)]
    exact wipe_out' h.2
theorem wipe_in {i : Nat} : ∀ {vs : List Nat}, i ∈ vs → i < σ.length → (wipe σ vs)[i]? = some none
  | [], h, _ => by cases h
  | v :: vs, h, hl => by
    unfold wipe
    by_cases e : v = i
    · subst e
      exact List.getElem?_set_self (by rw [wipe_length]; exact hl)
    · rw [List.getElem?_set_ne e]
      exact wipe_in ((List.mem_cons.mp h).resolve_left (Ne.symm e)) hl
theorem wipe_eq {vs : List Nat} (hl : σ'.length = σ.length) (h : ∀ i, i ∉ vs → σ'[i]? = σ[i]?) : wipe σ' vs = wipe σ vs := by
  apply List.ext_getElem?
  intro i
  by_cases e : i ∈ vs
  · by_cases hi : i < σ.length
    · rw [wipe_in e hi, wipe_in e (hl ▸ hi)]
    · rw [List.getElem?_eq_none (by rw [wipe_length]; omega), List.getElem?_eq_none (by rw [wipe_length]; omega)]
  · rw [wipe_out' e, wipe_out' e, h i e]
theorem wipe_wipe {vs : List Nat} : wipe (wipe σ vs) vs = wipe σ vs := wipe_eq (wipe_length σ vs) fun i h => wipe_out' h
theorem back_len (l0 l1 : Loc) : ∀ vs : List Nat, (back l0 l1 vs).length = l1.length
  | [] => rfl
  | v :: vs => by unfold back; rw [List.length_set, back_len l0 l1 vs]
theorem back_out {l0 l1 : Loc} {i : Nat} : ∀ {vs : List Nat}, i ∉ vs → (back l0 l1 vs)[i]? = l1[i]?
  | [], _ => rfl
  | v :: vs, h => by
    simp only [List.mem_cons, not_or] at h
    unfold back
    rw [List.getElem?_set_ne (Ne.symm h.1)]
    exact back_out h.2
theorem back_in {l0 l1 : Loc} {i : Nat} (hl : l1.length = l0.length) : ∀ {vs : List Nat}, i ∈ vs → i < l0.length → (back l0 l1 vs)[i]? = l0[i]?
  | [], h, _ => by cases h
  | v :: vs, h, hi => by
    unfold back
    by_cases e : v = i
    · subst e
      rw [List.getElem?_set_self (by rw [back_len]; omega), List.getElem?_eq_getElem hi]
      simp [List.getD, List.getElem?_eq_getElem hi]
    · rw [List.getElem?_set_ne e]
      exact back_in hl ((List.mem_cons.mp h).resolve_left (Ne.symm e)) hi
theorem own_wipe {vs : List Nat} (hf : ∀ i ∈ vs, freeD loc i = true) : ∀ c, OwnAt (wipeL loc vs) (wipe σ vs) c ↔ OwnAt loc σ c := fun c => by
  constructor
  · rintro ⟨i, b, ds, e1, e2⟩
    by_cases h : i ∈ vs
    · rw [wipeL_in h (by have := lt_of_get e1; rwa [wipeL_len] at this)] at e1; cases e1
    · rw [wipeL_out h] at e1
      rw [wipe_out' h] at e2
      exact ⟨i, b, ds, e1, e2⟩
  · rintro ⟨i, b, ds, e1, e2⟩
    have h : i ∉ vs := fun z => (freeD_spec (hf i z)).2.1 b ds e1
    exact ⟨i, b, ds, by rw [wipeL_out h]; exact e1, by rw [wipe_out' h]; exact e2⟩
theorem Rel.wiped {vs : List Nat} (R : Rel P L0 loc σ H) (hf : ∀ i ∈ vs, freeD loc i = true) : Rel P L0 (wipeL loc vs) (wipe σ vs) H := by
  have ow := own_wipe (σ := σ) hf
  have lv : ∀ c, Lv L0 (wipeL loc vs) (wipe σ vs) c → Lv L0 loc σ c := fun c z => z.imp id (ow c).mp
  have out : ∀ {i : Nat} {s : Slot}, (wipeL loc vs)[i]? = some s → s ≠ .none → i ∉ vs := fun {i s} e n h => by
    rw [wipeL_in h (by have := lt_of_get e; rwa [wipeL_len] at this)] at e
    cases e; exact n rfl
  refine ⟨by rw [wipeL_len, wipe_length]; exact R.len, R.l0, fun i d e => ?_, fun i b ds e => ?_, fun i j b c ds es a e1 e2 e3 e4 => ?_, fun i ns e => ?_⟩
  · have h := out e (fun z => nomatch z)
    rw [wipeL_out h] at e
    obtain ⟨v, e1, r⟩ := R.dat i d e
    exact ⟨v, by rw [wipe_out' h]; exact e1, Rep.weak lv r⟩
  · have h := out e (fun z => nomatch z)
    rw [wipeL_out h] at e
    obtain ⟨a, ws, e1, h1, n1, r⟩ := R.own i b ds e
    exact ⟨a, ws, by rw [wipe_out' h]; exact e1, h1, n1, Reps.weak lv r⟩
  · have h1 := out e1 (fun z => nomatch z)
    have h2 := out e2 (fun z => nomatch z)
    rw [wipeL_out h1] at e1
    rw [wipeL_out h2] at e2
    rw [wipe_out' h1] at e3
    rw [wipe_out' h2] at e4
    exact R.inj _ _ _ _ _ _ _ e1 e2 e3 e4
  · have h := out e (fun z => nomatch z)
    rw [wipeL_out h] at e
    obtain ⟨a, e1, h1⟩ := R.scr i ns e
    exact ⟨a, by rw [wipe_out' h]; exact e1, h1.keep (fun _ _ z _ => z) fun b z => .inl (lv b z)⟩
theorem Rel.less {L0' : Addr → Prop} (R : Rel P L0 loc σ H) (h : ∀ b, L0' b → L0 b) : Rel P L0' loc σ H := by
  have lv : ∀ c, Lv L0' loc σ c → Lv L0 loc σ c := fun c z => z.imp (h c) id
  refine ⟨R.len, fun b z => R.l0 b (h b z), fun i d e => ?_, fun i b ds e => ?_, R.inj, fun i ns e => ?_⟩
  · obtain ⟨v, e1, r⟩ := R.dat i d e
    exact ⟨v, e1, Rep.weak lv r⟩
  · obtain ⟨a, ws, e1, h1, n1, r⟩ := R.own i b ds e
    exact ⟨a, ws, e1, h1, fun z => n1 (h a z), Reps.weak lv r⟩
  · obtain ⟨a, e1, h1⟩ := R.scr i ns e
    exact ⟨a, e1, h1.keep (fun _ _ z _ => z) fun b z => .inl (lv b z)⟩
/-- a live list that no local has gets other items -/
theorem Rel.other {a : Addr} {o : HO} (R : Rel P L0 loc σ H) (ha : L0 a) : Rel P L0 loc σ (upd H a o) := by
  have kp : ∀ b o', H b = some o' → ¬ Lv L0 loc σ b → (upd H a o) b = some o' := fun b o' e n => by
    rw [upd_ne (fun z => n (by rw [z]; exact .inl ha))]; exact e
  refine ⟨R.len, fun b z => ?_, fun i d e => ?_, fun i b ds e => ?_, R.inj, fun i ns e => ?_⟩
  · by_cases h : b = a
    · subst h; exact ⟨_, upd_same⟩
    · rw [upd_ne h]; exact R.l0 b z
  · obtain ⟨v, e1, r⟩ := R.dat i d e
    exact ⟨v, e1, Rep.keep kp (fun b z => .inl z) d v r⟩
  · obtain ⟨c, ws, e1, h1, n1, r⟩ := R.own i b ds e
    have : c ≠ a := fun z => n1 (by rw [z]; exact ha)
    exact ⟨c, ws, e1, by rw [upd_ne this]; exact h1, n1, Reps.keep kp (fun b z => .inl z) ds ws r⟩
  · obtain ⟨c, e1, h1⟩ := R.scr i ns e
    exact ⟨c, e1, h1.keep kp fun b z => .inl z⟩
theorem put_slots {i j : Nat} {s : Slot} (h : put loc i s = some loc') : loc'.length = loc.length ∧ (i ≠ j → loc'[j]? = loc[j]?) := by
  unfold put at h
  split at h
  · cases h; exact ⟨List.length_set, fun e => List.getElem?_set_ne e⟩
  · cases h
theorem put_free {i j : Nat} {d : D} (h : put loc i (.dat d) = some loc') (hf : freeD loc j = true) : freeD loc' j = true := by
  unfold put at h
  split at h
  · rename_i hq
    cases h
    by_cases e : i = j
    · subst e
      unfold freeD
      rw [List.getElem?_set_self (free_spec hq).1]
    · unfold freeD at hf ⊢
      rw [List.getElem?_set_ne e]; exact hf
  · cases h
theorem puts_slots : ∀ {is : List Nat} {ds : List D} {loc loc' : Loc}, puts is ds loc = some loc' → loc'.length = loc.length ∧ (∀ j, j ∉ is → loc'[j]? = loc[j]?) ∧ ∀ j, freeD loc j = true → freeD loc' j = true
  | [], ds, loc, loc', e => by
    cases ds with
    | nil => simp only [puts] at e; cases e; exact ⟨rfl, fun _ _ => rfl, fun _ h => h⟩
    | cons _ _ => simp only [puts] at e; cases e
  | i :: is, ds, loc, loc', e => by
    cases ds with
    | nil => simp only [puts] at e; cases e
    | cons d ds =>
      simp only [puts] at e
      split at e
      · rename_i l1 e1
        obtain ⟨h1, h2, h3⟩ := puts_slots e
        refine ⟨h1.trans (put_slots (j := 0) e1).1, fun j hj => ?_, fun j hj => h3 j (put_free e1 hj)⟩
        simp only [List.mem_cons, not_or] at hj
        rw [h2 j hj.2, (put_slots e1).2 (Ne.symm hj.1)]
      · cases e
theorem bind_slots {p : Pat} {d : D} (h : bindP p d loc = some loc') : loc'.length = loc.length ∧ (∀ j, j ∉ pslots p → loc'[j]? = loc[j]?) ∧ ∀ j, freeD loc j = true → freeD loc' j = true := by
  cases p with
  | v i =>
    have h : put loc i (.dat d) = some loc' := h
    exact ⟨(put_slots (j := 0) h).1, fun j hj => (put_slots h).2 (by simp only [pslots, List.mem_singleton] at hj; exact Ne.symm hj), fun j hj => put_free h hj⟩
  | tup is =>
    cases d with
    | tup ds =>
      have h : puts is ds loc = some loc' := h
      exact puts_slots h
    | _ => simp only [bindP] at h; cases h
theorem EvPost.frD {r : R} {v : V} (p : EvPost P L0 loc σ H loc' r v H') {i : Nat} (h : freeD loc i = true) : freeD loc' i = true := by
  obtain ⟨hl, h1, h2⟩ := freeD_spec h
  have e := List.getElem?_eq_getElem hl
  have e' := p.fix i _ e fun b ds z => h1 b ds (by rw [e, z])
  unfold freeD at h ⊢
  rw [e] at h
  rw [e']
  exact h

/-! ### comprehensions -/
structure LcP (P : RP) (L0 : Addr → Prop) (ow : List Nat) (loc : Loc) (σ : Sg) (H : Hp) (A : Addr) (loc' : Loc) (H' : Hp) : Prop where
  rel : Rel P L0 loc' σ H'
  keep : ∀ b o, H b = some o → ¬ OwnAt loc σ b → b ≠ A → H' b = some o
  own : ∀ b, OwnAt loc' σ b → OwnAt loc σ b
  there : ∀ b o, H b = some o → ∃ o', H' b = some o'
  pin : ∀ (i : Nat) (ds : List D), loc[i]? = some (.own true ds) → ∃ ds', loc'[i]? = some (.own true ds')
  fix : ∀ (i : Nat) (s : Slot), i ∉ ow → loc[i]? = some s → (∀ b ds, s ≠ .own b ds) → loc'[i]? = some s
  fr : ∀ i ∈ ow, freeD loc' i = true
theorem lc_read {gi : Loc → Option (List D × Loc)} {p : Pat} {gc : Loc → Option (Bool × Loc)} {ge g : Loc → Option (R × Loc)} {own : List Nat} (hp : ∀ i ∈ pslots p, i ∈ own)
    (hg : ∀ loc r loc', g loc = some (r, loc') → ∃ items l1 ds l2, gi loc = some (items, l1) ∧ (∀ i ∈ own, freeD l1 i = true) ∧ items.length ≤ big ∧ lcRun own p gc ge items (wipeL l1 own) = some (ds, l2) ∧ r = .new ds ∧ loc' = back l1 l2 own)
    {Q : VK} (h : tE P g σ H Q) : tLc (tI P gi) (tG P p) (tT P gc) (tE P ge) own σ H Q := by
  obtain ⟨L0, loc, r, loc', R, e, k⟩ := h
  obtain ⟨items, l1, ds, lf, e1, hf, hbig, e2, rfl, rfl⟩ := hg _ _ _ e
  refine ⟨L0, loc, items, l1, R, e1, fun J H1 p1 ok A hA => ?_⟩
  have sA : Same H1 (upd H1 A (.lst [])) := same_upd hA
  have RA : Rel P (fun b => L0 b ∨ b = A) l1 σ (upd H1 A (.lst [])) := by
    refine p1.rel.grow sA (fun b z => ?_) fun b z => ?_
    · rcases z with z | rfl
      · exact .inl z
      · exact .inr hA
    · rcases z with z | rfl
      · obtain ⟨o, e⟩ := p1.rel.l0 b z; exact ⟨o, sA _ _ e⟩
      · exact ⟨_, upd_same⟩
  have Rw := RA.wiped (vs := own) hf
  have ow := own_wipe (σ := σ) hf
  have len1 : l1.length = σ.length := p1.rel.len
  have frw : ∀ i ∈ own, freeD (wipeL l1 own) i = true := fun i hi => by
    unfold freeD
    rw [wipeL_in hi (freeD_spec (hf i hi)).1]
  have nA1 : ¬ Lv L0 l1 σ A := fun z => by obtain ⟨o, e⟩ := p1.rel.lv z; rw [hA] at e; cases e
  refine ⟨fun i m H2 => m = items.length - i ∧ i ≤ items.length ∧ ∃ l2 dn vs rest, LcP P (fun b => L0 b ∨ b = A) own (wipeL l1 own) (wipe σ own) (upd H1 A (.lst [])) A l2 H2 ∧ H2 A = some (.lst vs) ∧
      Reps P (Lv (fun b => L0 b ∨ b = A) l2 (wipe σ own)) H2 dn vs ∧ lcRun own p gc ge (items.drop i) l2 = some (rest, lf) ∧ ds = dn ++ rest ∧ dn.length ≤ i,
    ⟨_, rfl, Nat.zero_le _, wipeL l1 own, [], [], ds, ⟨Rw, fun _ _ e _ _ => e, fun _ z => z, fun _ o e => ⟨o, e⟩, fun _ ds e => ⟨ds, e⟩, fun _ _ _ e _ => e, frw⟩, upd_same, Reps.nil, by rw [List.drop_zero]; exact e2, rfl, Nat.le_refl _⟩, ?_⟩
  rintro i m H2 ⟨rfl, hi, l2, dn, vs, rest, lp, eA, rd, e3, ed, hlen⟩
  -- from the heap ahead of the new list
  have kp1 : ∀ c o, H1 c = some o → ¬ OwnAt l1 σ c → H2 c = some o := fun c o e n => by
    have hc : c ≠ A := fun z => by rw [z, hA] at e; cases e
    exact lp.keep c o (sA _ _ e) (fun z => n ((ow c).mp z)) hc
  have th1 : ∀ c o, H1 c = some o → ∃ o', H2 c = some o' := fun c o e => lp.there c o (sA _ _ e)
  have own1 : ∀ c, OwnAt l2 (wipe σ own) c → OwnAt l1 σ c := fun c z => (ow c).mp (lp.own c z)
  have ok2 := ok H2 (fun c o e n => kp1 c o e fun z => n (.inr z)) i
  have lvl : ∀ b, Lv (fun b => L0 b ∨ b = A) l2 (wipe σ own) b → Lv L0 l1 σ b ∨ H1 b = none := fun b z => by
    rcases z with (z | rfl) | z
    · exact .inl (.inl z)
    · exact .inr hA
    · exact .inl (.inr (own1 b z))
  by_cases hlt : i < items.length
  · obtain ⟨go, yld⟩ := ok2.1 hlt
    refine .inr ⟨go, fun H' => ∃ l' dn' vs' rest', LcP P (fun b => L0 b ∨ b = A) own (wipeL l1 own) (wipe σ own) (upd H1 A (.lst [])) A l' H' ∧ H' A = some (.lst vs') ∧
      Reps P (Lv (fun b => L0 b ∨ b = A) l' (wipe σ own)) H' dn' vs' ∧ lcRun own p gc ge (items.drop (i + 1)) l' = some (rest', lf) ∧ ds = dn' ++ rest' ∧ dn'.length ≤ i + 1, fun H' q => ⟨_, by omega, rfl, hlt, q⟩, fun x H3 y => ?_⟩
    obtain ⟨sm, d, edd, rp⟩ := yld x H3 y
    have hd : items.drop i = d :: items.drop (i + 1) := by
      have := List.drop_eq_getElem_cons hlt
      rw [List.getElem?_eq_getElem hlt] at edd
      cases edd
      exact this
    rw [hd] at e3
    simp only [lcRun] at e3
    split at e3
    · cases e3
    · rename_i l3 e4
      have g3 := StPost.grew lp.rel sm
      obtain ⟨bl, bo, bf⟩ := bind_slots e4
      refine ⟨_, l2, d, l3, g3.rel, rp _ lvl (fun b z => lp.rel.lv z), e4, fun σ4 p4 hl4 ho4 => ?_⟩
      have p5 := g3.trans p4
      have ew : wipe σ4 own = wipe σ own := (wipe_eq hl4 fun i hi => ho4 i fun z => hi (hp i z)).trans wipe_wipe
      refine ⟨ew, ?_⟩
      have own4 : ∀ b, OwnAt l3 σ4 b → OwnAt l2 (wipe σ own) b := fun b z => by
        rcases p4.own b z with y | y
        · exact y
        · obtain ⟨o, e⟩ := p4.rel.lv (.inr z)
          rw [y] at e; cases e
      -- a step's end, from the state ahead of it
      have fin : ∀ {l6 : Loc} {H6 : Hp} {r : MP.R} {v : V}, EvPost P (fun b => L0 b ∨ b = A) l3 σ4 H3 l6 r v H6 →
          LcP P (fun b => L0 b ∨ b = A) own (wipeL l1 own) (wipe σ own) (upd H1 A (.lst [])) A (wipeL l6 own) H6 ∧ (∀ b, Lv (fun b => L0 b ∨ b = A) (wipeL l6 own) (wipe σ own) b → Lv (fun b => L0 b ∨ b = A) l6 σ4 b) := fun {l6 H6 r v} q => by
        have hf6 : ∀ j ∈ own, freeD l6 j = true := fun j hj => q.frD (bf j (lp.fr j hj))
        have R6 := q.rel.wiped (vs := own) hf6
        rw [ew] at R6
        have ow6 := own_wipe (loc := l6) (σ := σ4) hf6
        rw [ew] at ow6
        have q5 := p5.trans q.st
        refine ⟨⟨R6, fun b o e n nb => ?_, fun b z => ?_, fun b o e => ?_, fun j es e => ?_, fun j s hj e ns => ?_, fun j hj => ?_⟩, fun b z => z.imp id (ow6 b).mp⟩
        · exact q5.keep b o (lp.keep b o e n nb) fun z => n (lp.own b z)
        · exact lp.own b (own4 b (q.own b ((ow6 b).mp z)))
        · obtain ⟨o', e'⟩ := lp.there b o e
          exact q5.there b o' e'
        · obtain ⟨es', e'⟩ := lp.pin j es e
          obtain ⟨es2, e2', _⟩ := q5.pin j es' e'
          have hj : j ∉ own := fun z => (freeD_spec (hf6 j z)).2.1 _ _ e2'
          exact ⟨es2, by rw [wipeL_out hj]; exact e2'⟩
        · rw [wipeL_out hj]
          refine q.fix j s ?_ ns
          rw [bo j fun z => hj (hp j z)]
          exact lp.fix j s hj e ns
        · unfold freeD
          rw [wipeL_in hj (freeD_spec (hf6 j hj)).1]
      -- the new list's items so far, behind a step
      have kept : ∀ {l6 : Loc} {H6 : Hp} {r : MP.R} {v : V}, EvPost P (fun b => L0 b ∨ b = A) l3 σ4 H3 l6 r v H6 → H6 A = some (.lst vs) ∧ Reps P (Lv (fun b => L0 b ∨ b = A) l6 σ4) H6 dn vs := fun {l6 H6 r v} q => by
        have q5 := p5.trans q.st
        refine ⟨q5.keep A _ eA fun z => ?_, Reps.keep q5.kp q5.lv _ _ rd⟩
        obtain ⟨i', b', es', f1, f2⟩ := z
        obtain ⟨a, ws, g1, g2, g3, _⟩ := lp.rel.own _ _ _ f1
        rw [f2] at g1; cases g1
        exact g3 (.inr rfl)
      split at e3
      · cases e3
      · rename_i l4 e5
        refine ⟨_, l3, true, l4, p5.rel, e5, fun H5 q5 => ?_⟩
        refine iteT ?_
        split at e3
        · cases e3
        · rename_i r l5 e6
          split at e3
          · cases e3
          · rename_i d' e7
            split at e3
            · cases e3
            · rename_i es l6 e8
              cases e3
              refine ⟨_, l4, r, l5, q5.rel, e6, fun y H6 q6 => ?_⟩
              have q7 := q5.trans q6
              obtain ⟨k1, k2⟩ := kept q7
              obtain ⟨f1, f2⟩ := fin q7
              have hl := k2.length
              refine ⟨vs, k1, big_lt (by omega), wipeL l5 own, dn ++ [d'], vs ++ [y], es, ⟨f1.rel.other (.inr rfl), fun b o e n nb => by rw [upd_ne nb]; exact f1.keep b o e n nb, f1.own, fun b o e => ?_, f1.pin, f1.fix, f1.fr⟩, upd_same, ?_, e8, by rw [ed]; simp, by simp; omega⟩
              · by_cases z : b = A
                · subst z; exact ⟨_, upd_same⟩
                · rw [upd_ne z]; exact f1.there b o e
              · have rr : Reps P (Lv (fun b => L0 b ∨ b = A) l5 σ4) H6 (dn ++ [d']) (vs ++ [y]) := k2.append (Reps.cons (toVal_rep q6.rep e7) Reps.nil)
                refine Reps.keep (fun b o e n => ?_) (fun b z => .inl (f2 b z)) _ _ rr
                rw [upd_ne (fun z => n (.inl (.inr z)))]; exact e
      · rename_i l4 e5
        refine ⟨_, l3, false, l4, p5.rel, e5, fun H5 q5 => ?_⟩
        refine iteF ?_
        obtain ⟨k1, k2⟩ := kept q5
        obtain ⟨f1, f2⟩ := fin q5
        exact ⟨wipeL l4 own, dn, vs, rest, f1, k1, Reps.weak f2 k2, e3, ed, by omega⟩
  · have hx : i = items.length := by omega
    subst hx
    rw [List.drop_length] at e3
    cases e3
    rw [List.append_nil] at ed
    subst ed
    have lenf : lf.length = l1.length := by have := lp.rel.len; rw [wipe_length] at this; omega
    have lb : ∀ {i : Nat} {s : Slot}, (back l1 lf own)[i]? = some s → (∀ b ds, s ≠ .own b ds) ∨ (i ∉ own ∧ lf[i]? = some s ∧ (wipe σ own)[i]? = σ[i]?) := fun {i s} e => by
      by_cases h : i ∈ own
      · have hl : i < l1.length := (freeD_spec (hf i h)).1
        rw [back_in lenf h hl] at e
        exact .inl fun b ds z => (freeD_spec (hf i h)).2.1 b ds (by rw [e, z])
      · rw [back_out h] at e
        exact .inr ⟨h, e, wipe_out' h⟩
    have ob : ∀ c, OwnAt (back l1 lf own) σ c → OwnAt lf (wipe σ own) c := fun c ⟨i, b, ds, f1, f2⟩ => by
      rcases lb f1 with z | ⟨z1, z2, z3⟩
      · exact absurd rfl (z b ds)
      · exact ⟨i, b, ds, z2, by rw [z3]; exact f2⟩
    have lvb : ∀ c, Lv (fun b => L0 b ∨ b = A) (back l1 lf own) σ c → Lv (fun b => L0 b ∨ b = A) lf (wipe σ own) c := fun c z => z.imp id (ob c)
    have Rb : Rel P (fun b => L0 b ∨ b = A) (back l1 lf own) σ H2 := by
      refine ⟨by rw [back_len]; omega, lp.rel.l0, fun i d e => ?_, fun i b ds e => ?_, fun i j b c ds es a f1 f2 f3 f4 => ?_, fun i ns e => ?_⟩
      · by_cases h : i ∈ own
        · have hl : i < l1.length := (freeD_spec (hf i h)).1
          rw [back_in lenf h hl] at e
          obtain ⟨v, g1, r⟩ := p1.rel.dat i d e
          exact ⟨v, g1, Rep.keep (fun c o e n => kp1 c o e fun z => n (.inr z)) (fun c z => lvl c (lvb c z)) d v r⟩
        · rw [back_out h] at e
          obtain ⟨v, g1, r⟩ := lp.rel.dat i d e
          exact ⟨v, by rw [← wipe_out' h]; exact g1, Rep.weak lvb r⟩
      · rcases lb e with z | ⟨z1, z2, z3⟩
        · exact absurd rfl (z b ds)
        · obtain ⟨a, ws, g1, g2, g3, g4⟩ := lp.rel.own i b ds z2
          exact ⟨a, ws, by rw [← z3]; exact g1, g2, g3, Reps.weak lvb g4⟩
      · rcases lb f1 with z | ⟨z1, z2, z3⟩
        · exact absurd rfl (z _ _)
        rcases lb f2 with z | ⟨y1, y2, y3⟩
        · exact absurd rfl (z _ _)
        exact lp.rel.inj _ _ _ _ _ _ _ z2 y2 (by rw [z3]; exact f3) (by rw [y3]; exact f4)
      · by_cases h : i ∈ own
        · have hl : i < l1.length := (freeD_spec (hf i h)).1
          rw [back_in lenf h hl] at e
          exact absurd e ((freeD_spec (hf i h)).2.2 ns)
        · rw [back_out h] at e
          obtain ⟨a, g1, h1⟩ := lp.rel.scr i ns e
          exact ⟨a, by rw [← wipe_out' h]; exact g1, h1.keep (fun _ _ z _ => z) fun b z => .inl (lvb b z)⟩
    refine .inl ⟨ok2.2 (Nat.le_refl _), k _ _ (p1.trans ⟨Rb.less fun b z => .inl z, kp1, fun c z => own1 c (ob c z), ⟨A, vs, rfl, eA, fun z => ?_, ?_, Rb⟩, th1, fun _ c _ e => by cases e; exact hA, fun j es e => ?_, fun j s e ns => ?_⟩)⟩
    · rcases z with z | z
      · exact nA1 (.inl z)
      · exact nA1 (.inr (own1 A (ob A z)))
    · refine Reps.weak (fun c z => ?_) rd
      rcases z with z | rfl
      · exact lvb c (z.imp .inl id)
      · exact .inl (.inr rfl)
    · have hj : j ∉ own := fun z => (freeD_spec (hf j z)).2.1 _ _ e
      obtain ⟨es', e'⟩ := lp.pin j es (by rw [wipeL_out hj]; exact e)
      exact ⟨es', by rw [back_out hj]; exact e'⟩
    · by_cases hj : j ∈ own
      · rw [back_in lenf hj (freeD_spec (hf j hj)).1]; exact e
      · rw [back_out hj]
        exact lp.fix j s hj (by rw [wipeL_out hj]; exact e) ns
end MP

namespace MP
open PySem PySem.Spec PyProof.Rows L2
variable {P : RP} {L L' : Addr → Prop} {H H' : Hp} {L0 : Addr → Prop} {loc loc' : Loc} {σ σ' : Sg}

/-! ### leaves -/
theorem e_c {d : D} {v : V} (hd : ∀ L H, Rep P L H d v) {g : Loc → Option (R × Loc)} (hg : ∀ loc r loc', g loc = some (r, loc') → r = .val d ∧ loc' = loc) {Q : VK} (h : tE P g σ H Q) : tC v σ H Q := by
  obtain ⟨L0, loc, r, loc', R, e, k⟩ := h
  obtain ⟨rfl, rfl⟩ := hg _ _ _ e
  exact k v H (.refl R (hd _ _))
theorem e_v {i : Nat} {g : Loc → Option (R × Loc)} (hg : ∀ loc r loc', g loc = some (r, loc') → ∃ d, loc[i]? = some (.dat d) ∧ r = .val d ∧ loc' = loc) {Q : VK} (h : tE P g σ H Q) : tVar i σ H Q := by
  obtain ⟨L0, loc, r, loc', R, e, k⟩ := h
  obtain ⟨d, h1, rfl, rfl⟩ := hg _ _ _ e
  obtain ⟨v, e1, rp⟩ := R.dat i d h1
  exact ⟨v, e1, k v H (.refl R rp)⟩
theorem e_r {i : Nat} {g : Loc → Option (R × Loc)} (hg : ∀ loc r loc', g loc = some (r, loc') → (((∃ b ds, loc[i]? = some (.own b ds)) ∨ ∃ ns, loc[i]? = some (.scr ns)) ∧ r = .ref i ∧ loc' = loc) ∨ ∃ d, loc[i]? = some (.dat d) ∧ r = .val d ∧ loc' = loc) {Q : VK} (h : tE P g σ H Q) : tVar i σ H Q := by
  obtain ⟨L0, loc, r, loc', R, e, k⟩ := h
  rcases hg _ _ _ e with ⟨h1, rfl, rfl⟩ | ⟨d, h1, rfl, rfl⟩
  rcases h1 with ⟨b, ds, h1⟩ | ⟨ns, h1⟩
  · obtain ⟨a, vs, e1, _⟩ := R.own i b ds h1
    exact ⟨_, e1, k _ H (.reflR R e1)⟩
  · obtain ⟨a, e1, _⟩ := R.scr i ns h1
    exact ⟨_, e1, k _ H (.reflR R e1)⟩
  · obtain ⟨v, e1, rp⟩ := R.dat i d h1
    exact ⟨v, e1, k v H (.refl R rp)⟩
theorem e_fz {i : Nat} {g : Loc → Option (R × Loc)} (hg : ∀ loc r loc', g loc = some (r, loc') → (∃ ds, loc[i]? = some (.own false ds) ∧ r = .val (.lst ds) ∧ loc' = loc.set i (.dat (.lst ds))) ∨ ∃ d, loc[i]? = some (.dat d) ∧ r = .val d ∧ loc' = loc) {Q : VK} (h : tE P g σ H Q) : tVar i σ H Q := by
  obtain ⟨L0, loc, r, loc', R, e, k⟩ := h
  rcases hg _ _ _ e with ⟨ds, h1, rfl, rfl⟩ | ⟨d, h1, rfl, rfl⟩
  · obtain ⟨v, e1, p⟩ := fz_post R h1
    exact ⟨v, e1, k v H p⟩
  · obtain ⟨v, e1, rp⟩ := R.dat i d h1
    exact ⟨v, e1, k v H (.refl R rp)⟩
theorem e_tup {gs : Loc → Option (List R × Loc)} {g : Loc → Option (R × Loc)} (hg : ∀ loc r loc', g loc = some (r, loc') → ∃ rs ds, gs loc = some (rs, loc') ∧ rs.mapM toVal = some ds ∧ ds.length ≤ big ∧ r = .val (.tup ds)) {Q : VK} (h : tE P g σ H Q) : tTup (tA P gs) σ H Q := by
  obtain ⟨L0, loc, r, loc', R, e, k⟩ := h
  obtain ⟨rs, ds, h1, h2, h3, rfl⟩ := hg _ _ _ e
  refine ⟨L0, loc, rs, loc', R, h1, fun vs H1 p1 rr => ?_⟩
  have rp := rr.toVals h2
  refine ⟨big_line (by rw [← rp.length]; exact h3), fun p hp => k _ _ (p1.trans (EvPost.op p1.rel (.tup (fun b z => p1.rel.lv z) hp rp)))⟩
theorem e_lst {gs : Loc → Option (List R × Loc)} {g : Loc → Option (R × Loc)} (hg : ∀ loc r loc', g loc = some (r, loc') → ∃ rs ds, gs loc = some (rs, loc') ∧ rs.mapM toVal = some ds ∧ ds.length ≤ big ∧ r = .new ds) {Q : VK} (h : tE P g σ H Q) : tLst (tA P gs) σ H Q := by
  obtain ⟨L0, loc, r, loc', R, e, k⟩ := h
  obtain ⟨rs, ds, h1, h2, h3, rfl⟩ := hg _ _ _ e
  refine ⟨L0, loc, rs, loc', R, h1, fun vs H1 p1 rr => ?_⟩
  have rp := rr.toVals h2
  refine ⟨big_line (by rw [← rp.length]; exact h3), fun p hp => k _ _ (p1.trans (EvPost.op p1.rel (.lst hp rp)))⟩
/-- one argument -/
theorem one_arg {ga : Loc → Option (R × Loc)} {Q : List V → Hp → Prop} (h : tE P ga σ H fun x H1 => Q [x] H1) : tCons (tE P ga) tNil σ H Q := h

/-! ### truth and tests -/
theorem t_of {ga : Loc → Option (R × Loc)} {g : Loc → Option (Bool × Loc)} {K : PySem.W.Frag} (hK : P.K = K) (hg : ∀ loc k loc', g loc = some (k, loc') → ∃ r d, ga loc = some (r, loc') ∧ res loc' r = some d ∧ truth d = some k) {Q : Bool → Hp → Prop} (h : tT P g σ H Q) :
    tE P ga σ H fun x H1 => ∃ k, TruV K x H1 k ∧ Q k H1 := by
  obtain ⟨L0, loc, b, loc', R, e, k⟩ := h
  obtain ⟨r, d, h1, h2, h3⟩ := hg _ _ _ e
  have hC : ∀ {X : Cx}, X.K = K → ∀ {x : V} {H1 : Hp}, RepW P (Lv L0 loc' σ) H1 d x → TruV K x H1 b := fun {X} hX {x H1} q => hX ▸ truth_V (X := X) (hK.trans hX.symm) q h3
  refine ⟨L0, loc, r, loc', R, h1, fun x H1 p1 => ⟨b, ?_, k H1 p1.blank⟩⟩
  have q := res_w p1.rel p1.rep h2
  revert q
  intro q
  cases d <;> simp only [truth, reduceCtorEq, Option.some.injEq] at h3
  · rw [non_of q]; exact h3.symm
  · rw [bl_of q]; exact h3.symm
  · rw [int_of q]; exact h3.symm
  · obtain ⟨a, vs, rfl, t, rr⟩ := tup_of q
    refine .inr (.inl ⟨vs, hK ▸ t.sq, ?_⟩)
    rw [← h3]
    have := rr.length
    cases vs <;> cases ‹List D› <;> simp_all
  · obtain ⟨a, vs, rfl, t, rr⟩ := q
    refine .inl ⟨vs, SqL.of t, ?_⟩
    rw [← h3]
    have := rr.length
    cases vs <;> cases ‹List D› <;> simp_all
/-- the same of a value's reading, going on by the answer -/
theorem v_of {ga : Loc → Option (R × Loc)} {K : PySem.W.Frag} (hK : P.K = K) {L0 : Addr → Prop} {loc l1 : Loc} {r : R} {d : D} {b : Bool} {Q : V → Bool → Hp → Prop} (R : Rel P L0 loc σ H) (h1 : ga loc = some (r, l1)) (h2 : res l1 r = some d) (h3 : truth d = some b)
    (k : ∀ x H1, EvPost P L0 loc σ H l1 r x H1 → Q x b H1) : tE P ga σ H fun x H1 => ∃ k, TruV K x H1 k ∧ Q x k H1 := by
  refine ⟨L0, loc, r, l1, R, h1, fun x H1 p1 => ⟨b, ?_, k x H1 p1⟩⟩
  have q := res_w p1.rel p1.rep h2
  cases d <;> simp only [truth, reduceCtorEq, Option.some.injEq] at h3
  · rw [non_of q]; exact h3.symm
  · rw [bl_of q]; exact h3.symm
  · rw [int_of q]; exact h3.symm
  · obtain ⟨a, vs, rfl, t, rr⟩ := tup_of q
    refine .inr (.inl ⟨vs, hK ▸ t.sq, ?_⟩)
    rw [← h3]
    have := rr.length
    cases vs <;> cases ‹List D› <;> simp_all
  · obtain ⟨a, vs, rfl, t, rr⟩ := q
    refine .inl ⟨vs, SqL.of t, ?_⟩
    rw [← h3]
    have := rr.length
    cases vs <;> cases ‹List D› <;> simp_all
theorem EvPost.settled {r : R} {v : V} (p : EvPost P L0 loc σ H loc' r v H') : EvPost P L0 loc σ H loc' (sett r) v H' :=
  ⟨p.rel, p.keep, p.own, p.rep.sett, p.there, (fun ds c e => by cases r <;> cases e), p.pin, p.fix⟩
theorem e_and {ga gb g : Loc → Option (R × Loc)} {K : PySem.W.Frag} (hK : P.K = K)
    (hg : ∀ loc r loc', g loc = some (r, loc') → ∃ ra l1 d, ga loc = some (ra, l1) ∧ res l1 ra = some d ∧ ((truth d = some true ∧ gb l1 = some (r, loc')) ∨ (truth d = some false ∧ r = sett ra ∧ loc' = l1))) {Q : VK} (h : tE P g σ H Q) : tAndT K (tE P ga) (tE P gb) σ H Q := by
  obtain ⟨L0, loc, r, loc', R, e, k⟩ := h
  obtain ⟨ra, l1, d, h1, h2, h3⟩ := hg _ _ _ e
  rcases h3 with ⟨h3, h4⟩ | ⟨h3, rfl, rfl⟩
  · exact v_of (Q := fun x b H1 => if b = true then tE P gb σ H1 Q else Q x H1) hK R h1 h2 h3 fun x H1 p1 => iteT ⟨L0, l1, r, loc', p1.rel, h4, fun v H2 p2 => k v H2 (p1.trans p2)⟩
  · exact v_of (Q := fun x b H1 => if b = true then tE P gb σ H1 Q else Q x H1) hK R h1 h2 h3 fun x H1 p1 => iteF (k x H1 p1.settled)
theorem e_or {ga gb g : Loc → Option (R × Loc)} {K : PySem.W.Frag} (hK : P.K = K)
    (hg : ∀ loc r loc', g loc = some (r, loc') → ∃ ra l1 d, ga loc = some (ra, l1) ∧ res l1 ra = some d ∧ ((truth d = some false ∧ gb l1 = some (r, loc')) ∨ (truth d = some true ∧ r = sett ra ∧ loc' = l1))) {Q : VK} (h : tE P g σ H Q) : tOrT K (tE P ga) (tE P gb) σ H Q := by
  obtain ⟨L0, loc, r, loc', R, e, k⟩ := h
  obtain ⟨ra, l1, d, h1, h2, h3⟩ := hg _ _ _ e
  rcases h3 with ⟨h3, h4⟩ | ⟨h3, rfl, rfl⟩
  · exact v_of (Q := fun x b H1 => if b = true then Q x H1 else tE P gb σ H1 Q) hK R h1 h2 h3 fun x H1 p1 => iteF ⟨L0, l1, r, loc', p1.rel, h4, fun v H2 p2 => k v H2 (p1.trans p2)⟩
  · exact v_of (Q := fun x b H1 => if b = true then Q x H1 else tE P gb σ H1 Q) hK R h1 h2 h3 fun x H1 p1 => iteT (k x H1 p1.settled)
theorem e_not {ga g : Loc → Option (R × Loc)} {K : PySem.W.Frag} (hK : P.K = K)
    (hg : ∀ loc r loc', g loc = some (r, loc') → ∃ ra d b, ga loc = some (ra, loc') ∧ res loc' ra = some d ∧ truth d = some b ∧ r = .val (.bl (!b))) {Q : VK} (h : tE P g σ H Q) : tNotT K (tE P ga) σ H Q := by
  obtain ⟨L0, loc, r, loc', R, e, k⟩ := h
  obtain ⟨ra, d, b, h1, h2, h3, rfl⟩ := hg _ _ _ e
  exact v_of (Q := fun x b H1 => Q (.bl (!b)) H1) hK R h1 h2 h3 fun x H1 p1 => k _ H1 (p1.trans (EvPost.refl p1.rel (by unfold RepR Rep; rfl)))
theorem e_ite {gc : Loc → Option (Bool × Loc)} {ga gb g : Loc → Option (R × Loc)}
    (hg : ∀ loc r loc', g loc = some (r, loc') → ∃ b l1, gc loc = some (b, l1) ∧ (if b = true then ga l1 else gb l1) = some (r, loc')) {Q : VK} (h : tE P g σ H Q) : tIf (tT P gc) (tE P ga) (tE P gb) σ H Q := by
  obtain ⟨L0, loc, r, loc', R, e, k⟩ := h
  obtain ⟨b, l1, h1, h2⟩ := hg _ _ _ e
  refine ⟨L0, loc, b, l1, R, h1, fun H1 p1 => ?_⟩
  cases b with
  | true => exact ⟨L0, l1, r, loc', p1.rel, h2, fun v H2 p2 => k v H2 (p1.trans p2)⟩
  | false => exact ⟨L0, l1, r, loc', p1.rel, h2, fun v H2 p2 => k v H2 (p1.trans p2)⟩
theorem t_and {ga gb g : Loc → Option (Bool × Loc)} (hg : ∀ loc k loc', g loc = some (k, loc') → ∃ b l1, ga loc = some (b, l1) ∧ ((b = true ∧ gb l1 = some (k, loc')) ∨ (b = false ∧ k = false ∧ loc' = l1))) {Q : Bool → Hp → Prop} (h : tT P g σ H Q) : tAnd (tT P ga) (tT P gb) σ H Q := by
  obtain ⟨L0, loc, b, loc', R, e, k⟩ := h
  obtain ⟨c, l1, h1, h2⟩ := hg _ _ _ e
  refine ⟨L0, loc, c, l1, R, h1, fun H1 p1 => ?_⟩
  rcases h2 with ⟨rfl, h2⟩ | ⟨rfl, rfl, rfl⟩
  · exact iteT ⟨L0, l1, b, loc', p1.rel, h2, fun H2 p2 => k H2 (p1.trans p2)⟩
  · exact iteF (k H1 p1)
theorem t_or {ga gb g : Loc → Option (Bool × Loc)} (hg : ∀ loc k loc', g loc = some (k, loc') → ∃ b l1, ga loc = some (b, l1) ∧ ((b = false ∧ gb l1 = some (k, loc')) ∨ (b = true ∧ k = true ∧ loc' = l1))) {Q : Bool → Hp → Prop} (h : tT P g σ H Q) : tOr (tT P ga) (tT P gb) σ H Q := by
  obtain ⟨L0, loc, b, loc', R, e, k⟩ := h
  obtain ⟨c, l1, h1, h2⟩ := hg _ _ _ e
  refine ⟨L0, loc, c, l1, R, h1, fun H1 p1 => ?_⟩
  rcases h2 with ⟨rfl, h2⟩ | ⟨rfl, rfl, rfl⟩
  · exact iteF ⟨L0, l1, b, loc', p1.rel, h2, fun H2 p2 => k H2 (p1.trans p2)⟩
  · exact iteT (k H1 p1)
theorem t_not {ga g : Loc → Option (Bool × Loc)} (hg : ∀ loc k loc', g loc = some (k, loc') → ∃ b, ga loc = some (b, loc') ∧ k = !b) {Q : Bool → Hp → Prop} (h : tT P g σ H Q) : tNot (tT P ga) σ H Q := by
  obtain ⟨L0, loc, b, loc', R, e, k⟩ := h
  obtain ⟨c, h1, rfl⟩ := hg _ _ _ e
  exact ⟨L0, loc, c, loc', R, h1, fun H1 p1 => k H1 p1⟩
/-- a comparison as a test -/
theorem t_bl {ga : Loc → Option (R × Loc)} {g : Loc → Option (Bool × Loc)} (hg : ∀ loc k loc', g loc = some (k, loc') → ga loc = some (.val (.bl k), loc')) {Q : Bool → Hp → Prop} (h : tT P g σ H Q) : tE P ga σ H fun x H1 => ∃ k, x = .bl k ∧ Q k H1 := by
  obtain ⟨L0, loc, b, loc', R, e, k⟩ := h
  have h1 := hg _ _ _ e
  refine ⟨L0, loc, _, loc', R, h1, fun x H1 p1 => ⟨b, ?_, k H1 p1.blank⟩⟩
  have : Rep P (Lv L0 loc' σ) H1 (.bl b) x := p1.rep
  unfold Rep at this; exact this
/-- a < b < c -/
theorem e_ch {f f' : D → D → Option R} {ga gb gc g : Loc → Option (R × Loc)}
    (hg : ∀ loc r loc', g loc = some (r, loc') → ∃ ra l1 rb l2 d e, ga loc = some (ra, l1) ∧ gb l1 = some (rb, l2) ∧ res l2 (sett ra) = some d ∧ res l2 rb = some e ∧
      ((f d e = some (.val (.bl true)) ∧ ∃ rc e' f1 k, gc l2 = some (rc, loc') ∧ res loc' (sett rb) = some e' ∧ res loc' rc = some f1 ∧ f' e' f1 = some (.val (.bl k)) ∧ r = .val (.bl k)) ∨ (f d e = some (.val (.bl false)) ∧ r = .val (.bl false) ∧ loc' = l2)))
    {Q : VK} (h : tE P g σ H Q) : tE P ga σ H fun x H1 => tE P gb σ H1 fun y H2 => rD2 P f x y H2 fun z H3 => ∃ k, z = .bl k ∧ if k = true then tE P gc σ H3 fun z' H4 => rD2 P f' y z' H4 Q else Q (.bl false) H3 := by
  obtain ⟨L0, loc, r, loc', R, e, k⟩ := h
  obtain ⟨ra, l1, rb, l2, d, e', h1, h2, h3, h4, h5⟩ := hg _ _ _ e
  refine ⟨L0, loc, ra, l1, R, h1, fun x H1 p1 => ⟨L0, l1, rb, l2, p1.rel, h2, fun y H2 p2 => ?_⟩⟩
  have w1 := res_w p2.rel (p1.rep.sett.after p2) h3
  have w2 := res_w p2.rel p2.rep h4
  rcases h5 with ⟨h5, rc, e2, f1, k2, h6, h7, h8, h9, rfl⟩ | ⟨h5, rfl, rfl⟩
  · refine ⟨Lv L0 l2 σ, d, e', _, fun b z => p2.rel.lv z, w1, w2, h5, fun v H3 ⟨s3, hv⟩ => ?_⟩
    unfold Rep at hv
    refine ⟨true, hv, iteT ?_⟩
    have p3 : EvPost P L0 l2 σ H2 l2 (.val (.bl true)) v H3 := EvPost.op p2.rel ⟨s3, by unfold Rep; exact hv⟩
    refine ⟨L0, l2, rc, loc', p3.rel, h6, fun z' H4 p4 => ?_⟩
    have y4 := ((p2.rep.sett).after p3).after p4
    refine ⟨Lv L0 loc' σ, e2, f1, _, fun b z => p4.rel.lv z, res_w p4.rel y4 h7, res_w p4.rel p4.rep h8, h9, fun v5 H5 hp => ?_⟩
    exact k v5 H5 ((((p1.trans p2).trans p3).trans p4).trans (EvPost.op p4.rel hp))
  · refine ⟨_, d, e', _, fun b z => p2.rel.lv z, w1, w2, h5, fun v H3 hp => ?_⟩
    obtain ⟨s3, hv⟩ := hp
    have hv' := hv
    unfold Rep at hv
    refine ⟨false, hv, iteF ?_⟩
    subst hv
    exact k _ H3 ((p1.trans p2).trans (EvPost.op p2.rel ⟨s3, hv'⟩))

/-! ### slices -/
def tO (P : RP) (g : Loc → Option (Option Int × Loc)) : TO := fun σ H Q => ∃ L0 loc o loc', Rel P L0 loc σ H ∧ g loc = some (o, loc') ∧ ∀ H', EvPost P L0 loc σ H loc' (.val .non) .non H' → Q o H'
theorem o_none {g : Loc → Option (Option Int × Loc)} (hg : ∀ loc o loc', g loc = some (o, loc') → o = none ∧ loc' = loc) {Q : Option Int → Hp → Prop} (h : tO P g σ H Q) : tNoPart σ H Q := by
  obtain ⟨L0, loc, o, loc', R, e, k⟩ := h
  obtain ⟨rfl, rfl⟩ := hg _ _ _ e
  exact k H (.none0 R)
theorem o_some {ge : Loc → Option (R × Loc)} {g : Loc → Option (Option Int × Loc)} (hg : ∀ loc o loc', g loc = some (o, loc') → ∃ i, ge loc = some (.val (.int i), loc') ∧ o = some i) {Q : Option Int → Hp → Prop} (h : tO P g σ H Q) : tPart (tE P ge) σ H Q := by
  obtain ⟨L0, loc, o, loc', R, e, k⟩ := h
  obtain ⟨i, h1, rfl⟩ := hg _ _ _ e
  refine ⟨L0, loc, _, loc', R, h1, fun x H1 p1 => ⟨i, ?_, k H1 p1.blank⟩⟩
  have : Rep P (Lv L0 loc' σ) H1 (.int i) x := p1.rep
  unfold Rep at this; exact this
theorem e_sl {ga g : Loc → Option (R × Loc)} {gl gh : Loc → Option (Option Int × Loc)}
    (hg : ∀ loc r loc', g loc = some (r, loc') → ∃ ra l1 x l2 y d, ga loc = some (ra, l1) ∧ gl l1 = some (x, l2) ∧ gh l2 = some (y, loc') ∧ res loc' (sett ra) = some d ∧ apSl d x y = some r)
    {Q : VK} (h : tE P g σ H Q) : tSl (rSlD P) (tE P ga) (tO P gl) (tO P gh) σ H Q := by
  obtain ⟨L0, loc, r, loc', R, e, k⟩ := h
  obtain ⟨ra, l1, x, l2, y, d, h1, h2, h3, h4, h5⟩ := hg _ _ _ e
  refine ⟨L0, loc, ra, l1, R, h1, fun v H1 p1 => ⟨L0, l1, x, l2, p1.rel, h2, fun H2 p2 => ⟨L0, l2, y, loc', p2.rel, h3, fun H3 p3 => ?_⟩⟩⟩
  refine ⟨Lv L0 loc' σ, d, r, fun b z => p3.rel.lv z, res_w p3.rel ((p1.rep.sett.after p2).after p3) h4, h5, fun w H4 hp => ?_⟩
  exact k w H4 (((p1.trans p2).trans p3).trans (EvPost.op p3.rel hp))

/-! ### methods of an own list -/
theorem m_arg {i : Nat} {T : V → List V → Hp → VK → Prop} {ge g : Loc → Option (R × Loc)} {K : PySem.W.Frag}
    (hg : ∀ loc r loc', g loc = some (r, loc') → ∃ b0 ds0 re l1 b ds es d, loc[i]? = some (.own b0 ds0) ∧ ge loc = some (re, l1) ∧ l1[i]? = some (.own b ds) ∧ r = .val d ∧ loc' = l1.set i (.own b es) ∧
      ∀ (L1 : Addr → Prop) (a : Addr) (x : V) (vs : List V) (H1 : Hp) (Q : VK), H1 a = some (.lst vs) → Reps P L1 H1 ds vs → (∀ e, toVal re = some e → Rep P L1 H1 e x) → (∀ ws v, Reps P L1 H1 es ws → Rep P L1 H1 d v → Q v (upd H1 a (.lst ws))) → T (.ref a) [x] H1 Q)
    {Q : VK} (h : tE P g σ H Q) : tBM K "list" T (tVar i) (tCons (tE P ge) tNil) σ H Q := by
  obtain ⟨L0, loc, r, loc', R, e, k⟩ := h
  obtain ⟨b0, ds0, re, l1, b, ds, es, d, h0, h1, h2, rfl, rfl, h3⟩ := hg _ _ _ e
  obtain ⟨a, vs0, e1, e2, _⟩ := R.own i b0 ds0 h0
  refine ⟨.ref a, e1, .inl ⟨rfl, vs0, SqL.of e2⟩, L0, loc, re, l1, R, h1, fun x H1 p1 => ?_⟩
  obtain ⟨a', vs, f1, f2, f3, f4⟩ := p1.rel.own i b ds h2
  rw [e1] at f1; cases f1
  refine h3 _ a x vs H1 Q f2 f4 (fun e he => toVal_rep p1.rep he) fun ws v hw hv => ?_
  exact k v _ (p1.trans (EvPost.mut p1.rel h2 e1 hw (fun d' e => by cases e; exact hv) ⟨d, rfl⟩))
theorem m_no {i : Nat} {T : V → List V → Hp → VK → Prop} {g : Loc → Option (R × Loc)} {K : PySem.W.Frag}
    (hg : ∀ loc r loc', g loc = some (r, loc') → ∃ b ds es d, loc[i]? = some (.own b ds) ∧ r = .val d ∧ loc' = loc.set i (.own b es) ∧
      ∀ (L1 : Addr → Prop) (a : Addr) (vs : List V) (H1 : Hp) (Q : VK), H1 a = some (.lst vs) → Reps P L1 H1 ds vs → (∀ ws v, Reps P L1 H1 es ws → Rep P L1 H1 d v → Q v (upd H1 a (.lst ws))) → T (.ref a) [] H1 Q)
    {Q : VK} (h : tE P g σ H Q) : tBM0 K "list" T (tVar i) σ H Q := by
  obtain ⟨L0, loc, r, loc', R, e, k⟩ := h
  obtain ⟨b, ds, es, d, h0, rfl, rfl, h3⟩ := hg _ _ _ e
  obtain ⟨a, vs, e1, e2, e3, e4⟩ := R.own i b ds h0
  refine ⟨.ref a, e1, .inl ⟨rfl, vs, SqL.of e2⟩, ?_⟩
  refine h3 _ a vs H Q e2 e4 fun ws v hw hv => ?_
  exact k v _ (EvPost.mut R h0 e1 hw (fun d' e => by cases e; exact hv) ⟨d, rfl⟩)
theorem ap_app {L1 : Addr → Prop} {a : Addr} {x : V} {vs : List V} {H1 : Hp} {Q : VK} {ds : List D} {d : D} (h : H1 a = some (.lst vs)) (r : Reps P L1 H1 ds vs) (rx : Rep P L1 H1 d x) (hl : ds.length < big)
    (k : ∀ ws v, Reps P L1 H1 (ds ++ [d]) ws → Rep P L1 H1 .non v → Q v (upd H1 a (.lst ws))) : rAppend (.ref a) [x] H1 Q :=
  ⟨a, vs, x, rfl, rfl, h, big_lt (by rw [← r.length]; exact hl), k _ _ (r.append (Reps.cons rx Reps.nil)) rep_non⟩
theorem ap_ext {L1 : Addr → Prop} {a : Addr} {x : V} {vs : List V} {H1 : Hp} {Q : VK} {ds es : List D} (h : H1 a = some (.lst vs)) (r : Reps P L1 H1 ds vs) (rx : Rep P L1 H1 (.lst es) x) (hl : ds.length + es.length ≤ big)
    (k : ∀ ws v, Reps P L1 H1 (ds ++ es) ws → Rep P L1 H1 .non v → Q v (upd H1 a (.lst ws))) : rExtend (.ref a) [x] H1 Q := by
  unfold Rep at rx
  obtain ⟨b, ws, rfl, hb, _, rb⟩ := rx
  exact ⟨a, b, vs, ws, rfl, rfl, h, hb, big_line (by rw [← r.length, ← rb.length]; exact hl), k _ _ (r.append rb) rep_non⟩
theorem Reps.dropLast {L1 : Addr → Prop} {H1 : Hp} {ds : List D} {vs : List V} (r : Reps P L1 H1 ds vs) : Reps P L1 H1 ds.dropLast vs.dropLast := by
  rw [List.dropLast_eq_take, List.dropLast_eq_take, r.length]
  exact r.take _
theorem ap_pop {L1 : Addr → Prop} {a : Addr} {vs : List V} {H1 : Hp} {Q : VK} {ds : List D} {d : D} (h : H1 a = some (.lst vs)) (r : Reps P L1 H1 ds vs) (hd : ds.getLast? = some d)
    (k : ∀ ws v, Reps P L1 H1 ds.dropLast ws → Rep P L1 H1 d v → Q v (upd H1 a (.lst ws))) : rPop (.ref a) [] H1 Q := by
  rw [List.getLast?_eq_getElem?] at hd
  obtain ⟨v, e, rv⟩ := r.get hd
  rw [r.length] at e
  exact ⟨a, vs, v, rfl, rfl, h, e, k _ _ r.dropLast rv⟩
theorem ap_popAt {L1 : Addr → Prop} {a : Addr} {x : V} {vs : List V} {H1 : Hp} {Q : VK} {ds : List D} {d : D} {n : Int} (h : H1 a = some (.lst vs)) (r : Reps P L1 H1 ds vs) (rx : Rep P L1 H1 (.int n) x) (h0 : 0 ≤ n) (h1 : n < 2 ^ 62) (hd : ds[n.toNat]? = some d)
    (k : ∀ ws v, Reps P L1 H1 (ds.eraseIdx n.toNat) ws → Rep P L1 H1 d v → Q v (upd H1 a (.lst ws))) : rPopAt (.ref a) [x] H1 Q := by
  unfold Rep at rx
  subst rx
  obtain ⟨v, e, rv⟩ := r.get hd
  have hl := lt_of_get e
  refine ⟨a, vs, n, n.toNat, v, rfl, rfl, h, by omega, by omega, ?_, e, k _ _ (r.eraseIdx _) rv⟩
  have hx : ixN vs.length n = some n.toNat := by
    unfold ixN
    rw [if_pos h0, if_pos (by omega)]
  exact (ixN_seq hx).1
theorem ap_clear {L1 : Addr → Prop} {a : Addr} {vs : List V} {H1 : Hp} {Q : VK} (h : H1 a = some (.lst vs)) (k : ∀ ws v, Reps P L1 H1 [] ws → Rep P L1 H1 .non v → Q v (upd H1 a (.lst ws))) : rClear (.ref a) [] H1 Q :=
  ⟨a, vs, rfl, rfl, h, k _ _ Reps.nil rep_non⟩

/-! ### the script -/
theorem x_len {i : Nat} {g : Loc → Option (R × Loc)} {K : PySem.W.Frag} (hK : P.K = K) (hg : ∀ loc r loc', g loc = some (r, loc') → ∃ ns, loc[i]? = some (.scr ns) ∧ r = .val (.int ns.length) ∧ loc' = loc) {Q : VK} (h : tE P g σ H Q) :
    tVar i σ H fun x H1 => ∃ p ys, [x] = [V.ref p] ∧ (SqL K H1 p ys ∨ SqT K H1 p ys) ∧ Q (.int ys.length) H1 := by
  obtain ⟨L0, loc, r, loc', R, e, k⟩ := h
  obtain ⟨ns, h1, rfl, rfl⟩ := hg _ _ _ e
  obtain ⟨a, e1, e2⟩ := R.scr i ns h1
  refine ⟨_, e1, a, _, rfl, .inl (hK ▸ e2.sq), ?_⟩
  rw [List.length_map]
  exact k _ H (.refl R (by unfold RepR Rep; rfl))
theorem x_ix {i : Nat} {ge g : Loc → Option (R × Loc)} {K : PySem.W.Frag} (hK : P.K = K) (hg : ∀ loc r loc', g loc = some (r, loc') → ∃ ns n m, loc[i]? = some (.scr ns) ∧ ge loc = some (.val (.int n), loc') ∧ 0 ≤ n ∧ ns[n.toNat]? = some m ∧ r = .val (.int m)) {Q : VK} (h : tE P g σ H Q) :
    tOp (rIxL K) (tVar i) (tE P ge) σ H Q := by
  obtain ⟨L0, loc, r, loc', R, e, k⟩ := h
  obtain ⟨ns, n, m, h1, h2, h3, h4, rfl⟩ := hg _ _ _ e
  obtain ⟨a, e1, e2⟩ := R.scr i ns h1
  refine ⟨_, e1, L0, loc, _, loc', R, h2, fun y H1 p1 => ?_⟩
  have hy : Rep P (Lv L0 loc' σ) H1 (.int n) y := p1.rep
  unfold Rep at hy
  have h5 := p1.fix i _ h1 (fun _ _ z => nomatch z)
  obtain ⟨a', f1, f2⟩ := p1.rel.scr i ns h5
  rw [e1] at f1; cases f1
  refine ⟨a, _, n, .int m, rfl, hy, hK ▸ f2.sq, ?_, k _ H1 (p1.trans (EvPost.refl p1.rel (by unfold RepR Rep; rfl)))⟩
  have := atI_nat (xs := ns.map V.int) (j := n.toNat) (v := .int m) (by rw [List.getElem?_map, h4]; rfl)
  rwa [Int.toNat_of_nonneg h3] at this
theorem x_sl {i : Nat} {g : Loc → Option (R × Loc)} {gl gh : Loc → Option (Option Int × Loc)} {K : PySem.W.Frag} (hK : P.K = K)
    (hg : ∀ loc r loc', g loc = some (r, loc') → ∃ ns x l1 y, loc[i]? = some (.scr ns) ∧ gl loc = some (x, l1) ∧ gh l1 = some (y, loc') ∧ r = .new (cutD (ns.map D.int) x y))
    {Q : VK} (h : tE P g σ H Q) : tSl (rSlL K) (tVar i) (tO P gl) (tO P gh) σ H Q := by
  obtain ⟨L0, loc, r, loc', R, e, k⟩ := h
  obtain ⟨ns, x, l1, y, h1, h2, h3, rfl⟩ := hg _ _ _ e
  obtain ⟨a, e1, e2⟩ := R.scr i ns h1
  refine ⟨_, e1, L0, loc, x, l1, R, h2, fun H1 p1 => ⟨L0, l1, y, loc', p1.rel, h3, fun H2 p2 => ?_⟩⟩
  have h5 := (p1.trans p2).fix i _ h1 (fun _ _ z => nomatch z)
  obtain ⟨a', f1, f2⟩ := p2.rel.scr i ns h5
  rw [e1] at f1; cases f1
  exact ⟨a, _, rfl, hK ▸ f2.sq, fun p hp => k _ _ ((p1.trans p2).trans (EvPost.op p2.rel (.lst hp (cutD_V (Reps.of_ints ns) x y))))⟩

/-! ### what is walked -/
theorem rngL_len : ∀ (n : Nat) (lo : Int), (rngL lo n).length = n
  | 0, _ => rfl
  | n + 1, lo => by simp [rngL, rngL_len n]
theorem rngL_get : ∀ (n : Nat) (lo : Int) (i : Nat), i < n → (rngL lo n)[i]? = some (.int (lo + i))
  | 0, _, i, h => absurd h (by omega)
  | n + 1, lo, 0, _ => by simp [rngL]
  | n + 1, lo, i + 1, h => by
    simp only [rngL, List.getElem?_cons_succ]
    rw [rngL_get n (lo + 1) i (by omega)]
    congr 2
    push_cast
    omega
theorem ok_rng {L1 : Addr → Prop} {H1 : Hp} (lo : Int) (n : Nat) : ItOk P L1 H1 (Itr lo n) (rngL lo n) := fun H2 _ i => by
  refine ⟨fun h => ?_, fun h => ?_⟩
  · rw [rngL_len] at h
    refine ⟨h, fun x H3 y => ?_⟩
    obtain ⟨rfl, rfl⟩ := y
    exact ⟨Same.refl _, _, rngL_get n lo i h, fun L2 _ _ => rep_int⟩
  · rw [rngL_len] at h; exact h
theorem ok_lst {L1 : Addr → Prop} {H1 : Hp} {K : PySem.W.Frag} {a : Addr} {vs : List V} {ds : List D} (h1 : H1 a = some (.lst vs)) (n1 : ¬ L1 a) (r : Reps P L1 H1 ds vs) : ItOk P L1 H1 (Itl K a) ds := fun H2 kp i => by
  have h2 := kp _ _ h1 n1
  refine ⟨fun h => ?_, fun h => ?_⟩
  · obtain ⟨v, e, rv⟩ := r.get (List.getElem?_eq_getElem h)
    refine ⟨⟨vs, v, SqL.of h2, e⟩, fun x H3 y => ?_⟩
    obtain ⟨rfl, y⟩ := y
    have ex := y vs (SqL.of h2)
    rw [e] at ex; cases ex
    exact ⟨Same.refl _, _, List.getElem?_eq_getElem h, fun L2 l _ => Rep.keep kp l _ _ rv⟩
  · exact ⟨vs, SqL.of h2, by rw [← r.length]; exact h⟩
theorem ok_tup {L1 : Addr → Prop} {H1 : Hp} {K : PySem.W.Frag} (hK : P.K = K) (hI : ∀ {H2 : Hp} {a : Addr} {xs ys : List V}, SqT K H2 a xs → SqT K H2 a ys → True) {a : Addr} {vs : List V} {ds : List D} (h1 : H1 a = some (.tup vs)) (n1 : ¬ L1 a) (r : Reps P L1 H1 ds vs) : ItOk P L1 H1 (Itt K a) ds := fun H2 kp i => by
  have h2 := kp _ _ h1 n1
  refine ⟨fun h => ?_, fun h => ?_⟩
  · obtain ⟨v, e, rv⟩ := r.get (List.getElem?_eq_getElem h)
    refine ⟨⟨vs, v, SqT.of h2, e⟩, fun x H3 y => ?_⟩
    obtain ⟨rfl, y⟩ := y
    have ex := y vs (SqT.of h2)
    rw [e] at ex; cases ex
    exact ⟨Same.refl _, _, List.getElem?_eq_getElem h, fun L2 l _ => Rep.keep kp l _ _ rv⟩
  · exact ⟨vs, SqT.of h2, by rw [← r.length]; exact h⟩
/-- a tuple, tracked or written -/
theorem ok_tupA {L1 : Addr → Prop} {H1 : Hp} {K : PySem.W.Frag} (hK : P.K = K) {a : Addr} {vs : List V} {ds : List D} (t : TupAt P.K L1 H1 a vs) (r : Reps P L1 H1 ds vs) : ItOk P L1 H1 (Itt K a) ds := fun H2 kp i => by
  have h2 : SqT K H2 a vs := hK ▸ (t.keep (L' := fun _ => False) kp (fun _ z => z.elim)).sq
  refine ⟨fun h => ?_, fun h => ?_⟩
  · obtain ⟨v, e, rv⟩ := r.get (List.getElem?_eq_getElem h)
    refine ⟨⟨vs, v, h2, e⟩, fun x H3 y => ?_⟩
    obtain ⟨rfl, y⟩ := y
    have ex := y vs h2
    rw [e] at ex; cases ex
    exact ⟨Same.refl _, _, List.getElem?_eq_getElem h, fun L2 l _ => Rep.keep kp l _ _ rv⟩
  · exact ⟨vs, h2, by rw [← r.length]; exact h⟩
theorem enumL_len : ∀ (ds : List D) (k : Int), (enumL k ds).length = ds.length
  | [], _ => rfl
  | d :: ds, k => by simp [enumL, enumL_len ds]
theorem enumL_get : ∀ (ds : List D) (k : Int) (i : Nat) (d : D), ds[i]? = some d → (enumL k ds)[i]? = some (.tup [.int (k + i), d])
  | [], _, i, d, h => by simp at h
  | d :: ds, k, 0, d', h => by simp at h; subst h; simp [enumL]
  | d :: ds, k, i + 1, d', h => by
    simp only [enumL, List.getElem?_cons_succ]
    rw [enumL_get ds (k + 1) i d' (by simpa using h)]
    congr 4
    push_cast
    omega
theorem ok_enum {L1 : Addr → Prop} {H1 : Hp} {K : PySem.W.Frag} {a : Addr} {vs : List V} {ds : List D} (h1 : H1 a = some (.lst vs)) (n1 : ¬ L1 a) (r : Reps P L1 H1 ds vs) : ItOk P L1 H1 (Ite K a) (enumL 0 ds) := fun H2 kp i => by
  have h2 := kp _ _ h1 n1
  refine ⟨fun h => ?_, fun h => ?_⟩
  · rw [enumL_len] at h
    obtain ⟨v, e, rv⟩ := r.get (List.getElem?_eq_getElem h)
    refine ⟨⟨vs, v, SqL.of h2, e⟩, fun x H3 y => ?_⟩
    obtain ⟨T, x', rfl, nT, rfl, y⟩ := y
    have ex := y vs (SqL.of h2)
    rw [e] at ex; cases ex
    refine ⟨same_upd nT, _, enumL_get ds 0 i _ (List.getElem?_eq_getElem h), fun L2 l t2 => ?_⟩
    unfold Rep
    refine ⟨T, _, rfl, .inl ⟨upd_same, fun z => ?_⟩, Reps.cons (by unfold Rep; congr 1; omega) (Reps.cons (Rep.same (same_upd nT) (Rep.keep kp l _ _ rv)) Reps.nil)⟩
    obtain ⟨o, eo⟩ := t2 T z
    rw [nT] at eo; cases eo
  · rw [enumL_len] at h
    exact ⟨vs, SqL.of h2, by rw [← r.length]; exact h⟩
theorem zipL_get : ∀ (ds es : List D) (i : Nat), i < (zipL ds es).length → ∃ d e, ds[i]? = some d ∧ es[i]? = some e ∧ (zipL ds es)[i]? = some (.tup [d, e])
  | [], es, i, h => by simp [zipL] at h
  | d :: ds, [], i, h => by simp [zipL] at h
  | d :: ds, e :: es, 0, h => ⟨d, e, by simp, by simp, by simp [zipL]⟩
  | d :: ds, e :: es, i + 1, h => by
    obtain ⟨d', e', h1, h2, h3⟩ := zipL_get ds es i (by simpa [zipL] using h)
    exact ⟨d', e', by simpa using h1, by simpa using h2, by simpa [zipL] using h3⟩
theorem zipL_len : ∀ (ds es : List D), (zipL ds es).length = min ds.length es.length
  | [], es => by simp [zipL]
  | d :: ds, [] => by simp [zipL]
  | d :: ds, e :: es => by simp [zipL, zipL_len ds es]
theorem ok_zip {L1 : Addr → Prop} {H1 : Hp} {K : PySem.W.Frag} {a b : Addr} {vs ws : List V} {ds es : List D} (h1 : H1 a = some (.lst vs)) (n1 : ¬ L1 a) (r : Reps P L1 H1 ds vs) (g1 : H1 b = some (.lst ws)) (m1 : ¬ L1 b) (q : Reps P L1 H1 es ws) : ItOk P L1 H1 (Itz K a b) (zipL ds es) := fun H2 kp i => by
  have h2 := kp _ _ h1 n1
  have g2 := kp _ _ g1 m1
  refine ⟨fun h => ?_, fun h => ?_⟩
  · obtain ⟨d, e, hd, he, hz⟩ := zipL_get ds es i h
    obtain ⟨v, ev, rv⟩ := r.get hd
    obtain ⟨w, ew, rw'⟩ := q.get he
    refine ⟨⟨vs, ws, v, w, SqL.of h2, SqL.of g2, ev, ew⟩, fun x H3 y => ?_⟩
    obtain ⟨T, x', y', rfl, nT, rfl, y1, y2⟩ := y
    have ex := y1 vs (SqL.of h2)
    have ey := y2 ws (SqL.of g2)
    rw [ev] at ex; cases ex
    rw [ew] at ey; cases ey
    refine ⟨same_upd nT, _, hz, fun L2 l t2 => ?_⟩
    unfold Rep
    refine ⟨T, _, rfl, .inl ⟨upd_same, fun z => ?_⟩, Reps.cons (Rep.same (same_upd nT) (Rep.keep kp l _ _ rv)) (Reps.cons (Rep.same (same_upd nT) (Rep.keep kp l _ _ rw')) Reps.nil)⟩
    obtain ⟨o, eo⟩ := t2 T z
    rw [nT] at eo; cases eo
  · rw [zipL_len, r.length, q.length] at h
    exact ⟨vs, ws, SqL.of h2, SqL.of g2, by omega⟩
theorem i_seq {ga : Loc → Option (R × Loc)} {gi : Loc → Option (List D × Loc)} {K : PySem.W.Frag} (hg : ∀ loc items loc', gi loc = some (items, loc') → ∃ r, ga loc = some (r, loc') ∧ toVal r = some (.lst items)) {R' : It → Hp → Prop} (h : tI P gi σ H R') : iList K (tE P ga) σ H R' := by
  obtain ⟨L0, loc, items, loc', R, e, k⟩ := h
  obtain ⟨r, h1, h2⟩ := hg _ _ _ e
  refine ⟨L0, loc, r, loc', R, h1, fun x H1 p1 => ?_⟩
  have rp := toVal_rep p1.rep h2
  unfold Rep at rp
  obtain ⟨a, vs, rfl, e1, n1, rr⟩ := rp
  exact ⟨a, rfl, ⟨vs, SqL.of e1⟩, k _ _ p1.blank (ok_lst e1 n1 rr)⟩
theorem i_tpl {ga : Loc → Option (R × Loc)} {gi : Loc → Option (List D × Loc)} {K : PySem.W.Frag} (hK : P.K = K) (hg : ∀ loc items loc', gi loc = some (items, loc') → ∃ r, ga loc = some (r, loc') ∧ toVal r = some (.tup items)) {R' : It → Hp → Prop} (h : tI P gi σ H R') : iTup K (tE P ga) σ H R' := by
  obtain ⟨L0, loc, items, loc', R, e, k⟩ := h
  obtain ⟨r, h1, h2⟩ := hg _ _ _ e
  refine ⟨L0, loc, r, loc', R, h1, fun x H1 p1 => ?_⟩
  have rp := toVal_rep p1.rep h2
  unfold Rep at rp
  obtain ⟨a, vs, rfl, t, rr⟩ := rp
  exact ⟨a, rfl, ⟨vs, hK ▸ t.sq⟩, k _ _ p1.blank (ok_tupA hK t rr)⟩
theorem small_spec {n : Int} (h : small n = true) : -(2 ^ 62) ≤ n ∧ n < 2 ^ 62 := by
  unfold small at h
  simpa only [Bool.and_eq_true, decide_eq_true_eq] using h
theorem val_int {v : V} {n : Int} {r : R} (h : RepR P L0 loc σ H r v) (e : r = .val (.int n)) : v = .int n := by
  subst e
  have : Rep P (Lv L0 loc σ) H (.int n) v := h
  unfold Rep at this; exact this
theorem i_rng1 {ga : Loc → Option (R × Loc)} {gi : Loc → Option (List D × Loc)} (hg : ∀ loc items loc', gi loc = some (items, loc') → ∃ n, ga loc = some (.val (.int n), loc') ∧ small n = true ∧ items = rngL 0 n.toNat) {R' : It → Hp → Prop} (h : tI P gi σ H R') : iRng1 (tCons (tE P ga) tNil) σ H R' := by
  obtain ⟨L0, loc, items, loc', R, e, k⟩ := h
  obtain ⟨n, h1, h2, rfl⟩ := hg _ _ _ e
  have hs := small_spec h2
  exact ⟨L0, loc, _, loc', R, h1, fun x H1 p1 => ⟨n, by rw [val_int p1.rep rfl], hs.1, hs.2, k _ _ p1.blank (ok_rng 0 _)⟩⟩
theorem i_rng2 {ga gb : Loc → Option (R × Loc)} {gi : Loc → Option (List D × Loc)} (hg : ∀ loc items loc', gi loc = some (items, loc') → ∃ m l1 n, ga loc = some (.val (.int m), l1) ∧ gb l1 = some (.val (.int n), loc') ∧ small m = true ∧ small n = true ∧ items = rngL m (n - m).toNat) {R' : It → Hp → Prop} (h : tI P gi σ H R') :
    iRng2 (tCons (tE P ga) (tCons (tE P gb) tNil)) σ H R' := by
  obtain ⟨L0, loc, items, loc', R, e, k⟩ := h
  obtain ⟨m, l1, n, h1, h2, h3, h4, rfl⟩ := hg _ _ _ e
  have hs := small_spec h3
  have ht := small_spec h4
  refine ⟨L0, loc, _, l1, R, h1, fun x H1 p1 => ⟨L0, l1, _, loc', p1.rel, h2, fun y H2 p2 => ⟨m, n, by rw [val_int p1.rep rfl, val_int p2.rep rfl], ⟨hs.1, hs.2, ht.1, ht.2⟩, k _ _ (p1.blank.trans p2.blank) (ok_rng m _)⟩⟩⟩
theorem i_enum {ga : Loc → Option (R × Loc)} {gi : Loc → Option (List D × Loc)} {K : PySem.W.Frag} (hg : ∀ loc items loc', gi loc = some (items, loc') → ∃ r ds, ga loc = some (r, loc') ∧ toVal r = some (.lst ds) ∧ items = enumL 0 ds) {R' : It → Hp → Prop} (h : tI P gi σ H R') : iEnum K (tCons (tE P ga) tNil) σ H R' := by
  obtain ⟨L0, loc, items, loc', R, e, k⟩ := h
  obtain ⟨r, ds, h1, h2, rfl⟩ := hg _ _ _ e
  refine ⟨L0, loc, r, loc', R, h1, fun x H1 p1 => ?_⟩
  have rp := toVal_rep p1.rep h2
  unfold Rep at rp
  obtain ⟨a, vs, rfl, e1, n1, rr⟩ := rp
  exact ⟨a, vs, rfl, SqL.of e1, k _ _ p1.blank (ok_enum e1 n1 rr)⟩
theorem i_zip {ga gb : Loc → Option (R × Loc)} {gi : Loc → Option (List D × Loc)} {K : PySem.W.Frag} (hg : ∀ loc items loc', gi loc = some (items, loc') → ∃ r l1 r' ds es, ga loc = some (r, l1) ∧ gb l1 = some (r', loc') ∧ toVal r = some (.lst ds) ∧ toVal r' = some (.lst es) ∧ items = zipL ds es) {R' : It → Hp → Prop} (h : tI P gi σ H R') :
    iZip K (tCons (tE P ga) (tCons (tE P gb) tNil)) σ H R' := by
  obtain ⟨L0, loc, items, loc', R, e, k⟩ := h
  obtain ⟨r, l1, r', ds, es, h1, h2, h3, h4, rfl⟩ := hg _ _ _ e
  refine ⟨L0, loc, r, l1, R, h1, fun x H1 p1 => ⟨L0, l1, r', loc', p1.rel, h2, fun y H2 p2 => ?_⟩⟩
  have rp := (p1.rep.sett).after p2
  rw [tval_sett h3] at rp
  have rq := toVal_rep p2.rep h4
  have rp' : Rep P (Lv L0 loc' σ) H2 (.lst ds) x := rp
  unfold Rep at rp' rq
  obtain ⟨a, vs, rfl, e1, n1, rr⟩ := rp'
  obtain ⟨b, ws, rfl, f1, m1, rs⟩ := rq
  exact ⟨a, b, vs, ws, rfl, SqL.of e1, SqL.of f1, k _ _ (p1.blank.trans p2.blank) (ok_zip e1 n1 rr f1 m1 rs)⟩
end MP

namespace MP
open PySem PySem.Spec PyProof.Rows L2

/-! ### the look: this term is that expression -/
structure KwSh where
  x : Str
  f : Nat
  ks : List Str
  np : Nat
  perm : List Nat
structure CK where
  N : List Str
  bl : List Str
  gl : List (Str × Nat)
  fn : List (Str × Nat)
  kw : List KwSh
def vis (sc : Scope) (x : Str) : Bool := match sc.names.lookup x with
  | some .local => true
  | some .cell => true
  | some .free => true
  | _ => false
def kV (c : CK) (sc : Scope) (x : Str) (i : Nat) : Bool := decide (c.N[i]? = some x) && vis sc x && !(x == ("__debug__" : Str)) && !(x == ("__classdict__" : Str))
def kGl (sc : Scope) (x : Str) : Bool := decide (sc.names.lookup x = some .globalImplicit)
def kB (c : CK) (sc : Scope) (x y : Str) : Bool := decide (x = y) && decide (y ∈ c.bl) && kGl sc y
/-- a name that may be stored to -/
def kT (c : CK) (ow : Str → Bool) (sc : Scope) (x : Str) (i : Nat) : Bool := decide (c.N[i]? = some x) && (match sc.names.lookup x with
  | some .local => true
  | some .cell => ow x
  | _ => false)
def kTs (c : CK) (ow : Str → Bool) (sc : Scope) : List Expr → List Nat → Bool
  | [], is => match is with | [] => true | _ => false
  | e :: es, is => match e, is with
    | .Name x _, i :: is => kT c ow sc x i && kTs c ow sc es is
    | _, _ => false
def kP (c : CK) (ow : Str → Bool) (sc : Scope) (e : Expr) : Pat → Bool
  | .v i => match e with
    | .Name x _ => kT c ow sc x i
    | _ => false
  | .tup is => match e with
    | .Tuple es _ _ => kTs c ow sc es is
    | _ => false
def notStar : Expr → Bool
  | .Starred _ _ => false
  | _ => true
def notComp : Expr → Bool
  | .ListComp _ _ _ _ => false
  | .SetComp _ _ _ _ => false
  | .DictComp _ _ _ _ _ => false
  | _ => true
def notSlice : Expr → Bool
  | .Slice _ _ _ _ => false
  | _ => true
def notSet : Expr → Bool
  | .Set _ _ _ => false
  | _ => true
def plainTest : Expr → Bool
  | .UnaryOp .Not _ _ => false
  | .BoolOp _ _ _ => false
  | .IfExp _ _ _ _ => false
  | .Compare _ _ _ _ => false
  | _ => true
def nameO1 : O1 → Str
  | .len => "len" | .int => "int" | .list => "list" | .tuple => "tuple" | .sorted => "sorted" | .all => "all" | .any => "any" | .sum => "sum" | .abs => "abs" | .bool => "bool"
  | .neg => "" | .isi _ => ""
def tyS : Ty → Str
  | .int => "int" | .bool => "bool" | .list => "list" | .tuple => "tuple" | .str => "str"
def ownP (c : CK) (own : List Nat) : List (Str × Nat) := own.map fun i => (c.N.getD i "", i)
def blkOw (scope : Scope) : Str → Bool := fun x => scope.names.lookup x == some .cell

mutual
def mE : Nat → CK → (Str → Bool) → Scope → Expr → ME → Bool
  | 0, _, _, _, _, _ => false
  | n + 1, c, ow, sc, e, m => match m with
    | .c d => match e with
      | .Constant k _ _ => (match k, d with
        | .int i, .int j => decide (i = j)
        | .bool i, .bl j => decide (i = j)
        | .none, .non => true
        | .str i, .str j => decide (i = j)
        | _, _ => false)
      | _ => false
    | .g k => match e with
      | .Name x _ => decide ((x, k) ∈ c.gl) && kGl sc x && !(x == ("__debug__" : Str))
      | _ => false
    | .v i => match e with
      | .Name x _ => kV c sc x i
      | _ => false
    | .r i => match e with
      | .Name x _ => kV c sc x i
      | _ => false
    | .fz i => match e with
      | .Name x _ => kV c sc x i
      | _ => false
    | .tup es => match e with
      | .Tuple xs _ _ => mEs n c ow sc xs es && decide (es.length ≤ 1000)
      | _ => false
    | .lst es => match e with
      | .List xs _ => mEs n c ow sc xs es && decide (es.length ≤ 1000)
      | _ => false
    | .o1 o a => match o with
      | .neg => match e with
        | .UnaryOp .USub x _ => mE n c ow sc x a
        | _ => false
      | .isi t => match e with
        | .Call (.Name f _) [x, .Name tn _] [] _ => kB c sc f "isinstance" && kB c sc tn (tyS t) && notStar x && mE n c ow sc x a
        | _ => false
      | o => match e with
        | .Call (.Name f _) [x] [] _ => kB c sc f (nameO1 o) && notStar x && mE n c ow sc x a
        | _ => false
    | .o2 o a b => match e with
      | .BinOp x op y _ => decide (binOf o = some op) && mE n c ow sc x a && mE n c ow sc y b
      | .Compare x [op] [y] _ => decide (cmpOf o = some op) && notSet y && mE n c ow sc x a && mE n c ow sc y b
      | .Subscript x y _ => decide (o = .ix) && notSlice y && mE n c ow sc x a && mE n c ow sc y b
      | _ => false
    | .ch o o' a b d => match e with
      | .Compare x [op, op'] [y, z] _ => decide (cmpOf o = some op) && decide (cmpOf o' = some op') && notSet y && notSet z && mE n c ow sc x a && mE n c ow sc y b && mE n c ow sc z d
      | _ => false
    | .sl a lo hi => match e with
      | .Subscript x (.Slice l h none _) _ => mE n c ow sc x a && mO n c ow sc l lo && mO n c ow sc h hi
      | _ => false
    | .and a b => match e with
      | .BoolOp .And [x, y] _ => mE n c ow sc x a && mE n c ow sc y b
      | .BoolOp .And (x :: y :: z :: r) p => mE n c ow sc x a && mE n c ow sc (.BoolOp .And (y :: z :: r) p) b
      | _ => false
    | .or a b => match e with
      | .BoolOp .Or [x, y] _ => mE n c ow sc x a && mE n c ow sc y b
      | .BoolOp .Or (x :: y :: z :: r) p => mE n c ow sc x a && mE n c ow sc (.BoolOp .Or (y :: z :: r) p) b
      | _ => false
    | .not a => match e with
      | .UnaryOp .Not x _ => mE n c ow sc x a
      | _ => false
    | .ite t a b => match e with
      | .IfExp x y z _ => mT n c ow sc x t && mE n c ow sc y a && mE n c ow sc z b
      | _ => false
    | .call f as => match e with
      | .Call (.Name x _) [] [] _ => decide ((x, f) ∈ c.fn) && kGl sc x && !(x == ("__debug__" : Str)) && as.isEmpty
      | .Call (.Name x _) (y :: ys) [] _ => decide ((x, f) ∈ c.fn) && kGl sc x && !(x == ("__debug__" : Str)) && (y :: ys).all notStar && mEs n c ow sc (y :: ys) as
      | _ => false
    | .callK f as ks p => match e with
      | .Call (.Name x _) (y :: ys) kws _ => (c.kw.any fun q => decide (q.x = x) && decide (q.f = f) && decide (q.ks.map some = kws.map (·.arg)) && decide (q.np = as.length) && decide (q.perm = p)) && kGl sc x && !(x == ("__debug__" : Str)) && (y :: ys).all notStar && mEs n c ow sc (y :: ys) as && mEs n c ow sc (kws.map (·.value)) ks
      | _ => false
    | .lc own p it cs elt => match e with
      | .ListComp el [⟨tg, iter, ifs, as⟩] scope _ => decide (as = 0) && blkC c.N sc scope (ownP c own) && (pslots p).all (fun i => own.contains i) && kP c (blkOw scope) (relS scope sc) tg p && (notSet iter) && mI n c ow sc tg iter it && mC n c (blkOw scope) (relS scope sc) ifs cs && mE n c (blkOw scope) (relS scope sc) el elt
      | _ => false
    | .app i a => match e with
      | .Call (.Attribute (.Name x _) at_ ap) [y] [] cp => decide (at_ = "append") && kV c sc x i && (ap.endLine == cp.line) && notStar y && mE n c ow sc y a
      | _ => false
    | .pop i => match e with
      | .Call (.Attribute (.Name x _) at_ ap) [] [] cp => decide (at_ = "pop") && kV c sc x i && (ap.endLine == cp.line)
      | _ => false
    | .popAt i a => match e with
      | .Call (.Attribute (.Name x _) at_ ap) [y] [] cp => decide (at_ = "pop") && kV c sc x i && (ap.endLine == cp.line) && notStar y && mE n c ow sc y a
      | _ => false
    | .clear i => match e with
      | .Call (.Attribute (.Name x _) at_ ap) [] [] cp => decide (at_ = "clear") && kV c sc x i && (ap.endLine == cp.line)
      | _ => false
    | .ext i a => match e with
      | .Call (.Attribute (.Name x _) at_ ap) [y] [] cp => decide (at_ = "extend") && kV c sc x i && (ap.endLine == cp.line) && notStar y && mE n c ow sc y a
      | _ => false
    | .sIx i a => match e with
      | .Subscript (.Name x _) y _ => kV c sc x i && notSlice y && mE n c ow sc y a
      | _ => false
    | .sLen i => match e with
      | .Call (.Name f _) [.Name x _] [] _ => kB c sc f "len" && kV c sc x i
      | _ => false
    | .sSl i lo hi => match e with
      | .Subscript (.Name x _) (.Slice l h none _) _ => kV c sc x i && mO n c ow sc l lo && mO n c ow sc h hi
      | _ => false
def mEs : Nat → CK → (Str → Bool) → Scope → List Expr → List ME → Bool
  | 0, _, _, _, _, _ => false
  | n + 1, c, ow, sc, es, ms => match es, ms with
    | [], [] => true
    | e :: es, m :: ms => notStar e && mE n c ow sc e m && mEs n c ow sc es ms
    | _, _ => false
def mO : Nat → CK → (Str → Bool) → Scope → Option Expr → Option ME → Bool
  | 0, _, _, _, _, _ => false
  | n + 1, c, ow, sc, e, m => match e, m with
    | none, none => true
    | some e, some m => mE n c ow sc e m
    | _, _ => false
def mT : Nat → CK → (Str → Bool) → Scope → Expr → ME → Bool
  | 0, _, _, _, _, _ => false
  | n + 1, c, ow, sc, e, m => match e with
    | .UnaryOp .Not x _ => match m with
      | .not a => mT n c ow sc x a
      | _ => false
    | .BoolOp .And [x, y] _ => match m with
      | .and a b => mT n c ow sc x a && mT n c ow sc y b
      | _ => false
    | .BoolOp .And (x :: y :: z :: r) p => match m with
      | .and a b => mT n c ow sc x a && mT n c ow sc (.BoolOp .And (y :: z :: r) p) b
      | _ => false
    | .BoolOp .Or [x, y] _ => match m with
      | .or a b => mT n c ow sc x a && mT n c ow sc y b
      | _ => false
    | .BoolOp .Or (x :: y :: z :: r) p => match m with
      | .or a b => mT n c ow sc x a && mT n c ow sc (.BoolOp .Or (y :: z :: r) p) b
      | _ => false
    | .Compare x [op] [y] _ => match m with
      | .o2 o a b => decide (cmpOf o = some op) && notSet y && mE n c ow sc x a && mE n c ow sc y b
      | _ => false
    | .Compare x [op, op'] [y, z] _ => match m with
      | .ch o o' a b d => decide (cmpOf o = some op) && decide (cmpOf o' = some op') && notSet y && notSet z && mE n c ow sc x a && mE n c ow sc y b && mE n c ow sc z d
      | _ => false
    | e => plainTest e && mE n c ow sc e m
def mC : Nat → CK → (Str → Bool) → Scope → List Expr → List ME → Bool
  | 0, _, _, _, _, _ => false
  | n + 1, c, ow, sc, es, ms => match es, ms with
    | [], [] => true
    | [e], [m] => mT n c ow sc e m
    | _, _ => false
def mI : Nat → CK → (Str → Bool) → Scope → Expr → Expr → IT → Bool
  | 0, _, _, _, _, _, _ => false
  | n + 1, c, ow, sc, tg, e, it => match it with
    | .seq a => mE n c ow sc e a
    | .tpl a => mE n c ow sc e a
    | .rng1 a => match e with
      | .Call (.Name f _) [x] [] _ => kB c sc f "range" && notStar x && mE n c ow sc x a
      | _ => false
    | .rng2 a b => match e with
      | .Call (.Name f _) [x, y] [] _ => kB c sc f "range" && notStar x && notStar y && mE n c ow sc x a && mE n c ow sc y b
      | _ => false
    | .enum a => match e, tg with
      | .Call (.Name f _) [x] [] _, .Tuple _ _ _ => kB c sc f "enumerate" && notStar x && mE n c ow sc x a
      | _, _ => false
    | .zip a b => match e, tg with
      | .Call (.Name f _) [x, y] [] _, .Tuple _ _ _ => kB c sc f "zip" && notStar x && notStar y && mE n c ow sc x a && mE n c ow sc y b
      | _, _ => false
end

/-! ### a context where the look holds -/
def permV (p : List Nat) (l : List V) : List V := p.filterMap fun i => l[i]?
structure Ctx (P : RP) (G : Nat → D) (C : CallS) (c : CK) (ow : Str → Bool) (sc : Scope) (kk : Nat) (X : Cx) : Prop where
  hN : X.N = c.N
  nd : c.N.Nodup
  hsc : X.env.scope = sc
  kind : sc.kind = .function
  hK : P.K = X.K
  calm : X.calm = true
  xe : X.xe = fun _ _ => False
  room : Room kk X.A
  bl : ∀ x ∈ c.bl, X.mg x = none
  gl : ∀ p ∈ c.gl, ∃ u v, X.mg p.1 = some u ∧ RelV v u ∧ ∀ L H, Rep P L H (G p.2) v
  fn : ∀ p ∈ c.fn, ∃ f fd ps, FnOk X.prog X.w X.K X.mg X.base CX0 kk f fd ps (spOf P (C p.2) ps.length) ∧ X.mg p.1 = some (.ref f) ∧ PySem.W.keepIn X.K (.ref f) = true ∧ Binds X.K fd ps [] ∧ ∀ a r a', C p.2 a = some (r, a') → a.length = ps.length
  kw : ∀ q ∈ c.kw, ∃ f fd ps g gV, FnOk X.prog X.w X.K X.mg X.base CX0 kk f fd ps (spOf P (C q.f) ps.length) ∧ X.mg q.x = some (.ref f) ∧ PySem.W.keepIn X.K (.ref f) = true ∧ KBinds X.K fd ps q.ks g gV ∧
    (∀ vs zs : List V, vs.length = q.np → zs.length = q.ks.length → gV vs zs = permV q.perm (vs ++ zs)) ∧ ∀ a r a', C q.f a = some (r, a') → a.length = ps.length
  hC : ∀ j a r a', C j a = some (r, a') → ∀ i, r ≠ .ref i
  fnok : ∀ x, ow x = true → X.fn x = true

section
variable {P : RP} {G : Nat → D} {C : CallS} {c : CK} {ow : Str → Bool} {sc : Scope} {kk : Nat} {X : Cx}
theorem Ctx.units (h : Ctx P G C c ow sc kk X) : X.A.units + 65 < cLine := by have := h.room.un; omega
theorem Ctx.glb (h : Ctx P G C c ow sc kk X) {x : Str} (e : kGl sc x = true) : Gl X x := by
  unfold kGl at e
  show X.env.scope.names.lookup x = _
  rw [h.hsc]; exact of_decide_eq_true e
theorem kB_spec {x y : Str} (h : Ctx P G C c ow sc kk X) (e : kB c sc x y = true) : x = y ∧ Gl X x ∧ X.mg x = none := by
  unfold kB at e
  simp only [Bool.and_eq_true, decide_eq_true_eq] at e
  obtain ⟨⟨rfl, h2⟩, h3⟩ := e
  exact ⟨rfl, h.glb h3, h.bl _ h2⟩
theorem kV_spec {x : Str} {i : Nat} {pos : Pos} (h : Ctx P G C c ow sc kk X) (e : kV c sc x i = true) : PE X (.Name x pos) (tVar i) := by
  unfold kV at e
  simp only [Bool.and_eq_true, decide_eq_true_eq, Bool.not_eq_true'] at e
  obtain ⟨⟨⟨h1, h2⟩, h3⟩, h4⟩ := e
  refine pe_var (by rw [h.hN]; exact h1) ?_ h3 h4
  unfold vis at h2
  unfold Vis
  rw [h.hsc]
  split at h2
  · exact .inl (by assumption)
  · exact .inr (.inl (by assumption))
  · exact .inr (.inr (by assumption))
  · cases h2
theorem star_ok {e : Expr} {es : List Expr} {env : Env} (h : notStar e = true) : starEach (e :: es) env = (false, eval e env) :: starEach es env := by
  cases e <;> first | rfl | cases h
theorem star_any {pos : Pos} {env : Env} : ∀ {es : List Expr}, es.all notStar = true → (backTo pos (starEach es env)).any (·.1) = false
  | [], _ => rfl
  | e :: es, h => by
    simp only [List.all_cons, Bool.and_eq_true] at h
    rw [star_ok h.1]
    show (false || (backTo pos (starEach es env)).any (·.1)) = false
    rw [star_any h.2]; rfl
theorem plain_ok {e : Expr} {env : Env} (h : plainTest e = true) : ∀ whole, isTrue e env whole = (do let v ← whole; standAt e.pos; holding [v] (truthy v)) := by
  intro whole
  cases e <;> first | rfl | (exfalso; simp [plainTest] at h; done) | skip
  rename_i op x p
  cases op <;> first | rfl | (exfalso; simp [plainTest] at h; done)
theorem slice_ok {e : Expr} (h : notSlice e = true) : PlainIx e := by
  intro o i
  cases e <;> first | rfl | cases h
theorem comp_ok {e : Expr} {t : Option Expr} {l : Nat} {env : Env} (h : notComp e = true) : swapsWith e t l env = pure false := by
  cases e <;> first | rfl | cases h
theorem set_ok {e : Expr} {op : CmpOp} (h : notSet e = true) : behindInMarks op e = false := by
  cases e <;> first | rfl | cases h
theorem fold_ok {e : Expr} {env : Env} (h : notSet e = true) : ∀ x, foldedSetIterable e env x = pure x := by
  intro x
  cases e <;> first | rfl | cases h
end
end MP

namespace MP
open PySem PySem.Spec PyProof.Rows L2
section
variable {P : RP} {G : Nat → D} {C : CallS} {c : CK} {ow : Str → Bool} {sc : Scope} {kk : Nat} {X : Cx}
theorem evs_len : ∀ {ms : List ME} {loc loc' : Loc} {rs : List R}, evs G C ms loc = some (rs, loc') → rs.length = ms.length
  | [], loc, loc', rs, h => by simp only [evs, Option.some.injEq, Prod.mk.injEq] at h; rw [← h.1]; rfl
  | m :: ms, loc, loc', rs, h => by
    simp only [evs] at h
    split at h
    · split at h
      · rename_i r l1 h1 rs' l2 h2
        simp only [Option.some.injEq, Prod.mk.injEq] at h
        rw [← h.1]
        simp [evs_len h2]
      · cases h
    · cases h
theorem mapM_len : ∀ {rs : List R} {ds : List D}, rs.mapM toVal = some ds → ds.length = rs.length
  | [], ds, h => by rw [List.mapM_nil] at h; cases h; rfl
  | r :: rs, ds, h => by
    rw [List.mapM_cons] at h
    cases e1 : toVal r with
    | none => rw [e1] at h; cases h
    | some d =>
      cases e2 : rs.mapM toVal with
      | none => rw [e1, e2] at h; cases h
      | some ds' =>
        rw [e1, e2] at h
        cases h
        simp [mapM_len e2]
theorem mEs_len : ∀ {n : Nat} {es : List Expr} {ms : List ME}, mEs n c ow sc es ms = true → es.length = ms.length
  | 0, _, _, h => by simp [mEs] at h
  | n + 1, es, ms, h => by
    simp only [mEs] at h
    split at h
    · rfl
    · simp only [Bool.and_eq_true] at h
      simp [mEs_len h.2]
    · cases h
theorem perm_rep {L0 : Addr → Prop} {loc : Loc} {σ : Sg} {H : Hp} {rs : List R} {vs : List V} (h : RepRs P L0 loc σ H rs vs) : ∀ {p : List Nat} {ts : List R}, p.mapM (fun i => rs[i]?) = some ts → RepRs P L0 loc σ H ts (permV p vs)
  | [], ts, e => by rw [List.mapM_nil] at e; cases e; rfl
  | i :: p, ts, e => by
    rw [List.mapM_cons] at e
    cases e1 : rs[i]? with
    | none => rw [e1] at e; cases e
    | some r =>
      cases e2 : p.mapM (fun i => rs[i]?) with
      | none => rw [e1, e2] at e; cases e
      | some ts' =>
        rw [e1, e2] at e
        cases e
        obtain ⟨v, e3, e4⟩ := h.get e1
        exact ⟨v, permV p vs, by unfold permV; rw [List.filterMap_cons, e3], e4, perm_rep h e2⟩
/-- what the look gives, at a fuel -/
structure Snd (P : RP) (G : Nat → D) (C : CallS) (c : CK) (kk : Nat) (n : Nat) : Prop where
  E : ∀ {ow : Str → Bool} {sc : Scope} {X : Cx} {e : Expr} {m : ME}, Ctx P G C c ow sc kk X → mE n c ow sc e m = true → PE X e (tE P (ev G C m))
  Es : ∀ {ow : Str → Bool} {sc : Scope} {X : Cx} {es : List Expr} {ms : List ME}, Ctx P G C c ow sc kk X → mEs n c ow sc es ms = true → PA X es (tA P (evs G C ms))
  Ks : ∀ {ow : Str → Bool} {sc : Scope} {X : Cx} {ks : List Keyword} {ms : List ME}, Ctx P G C c ow sc kk X → mEs n c ow sc (ks.map (·.value)) ms = true → PK X ks (tA P (evs G C ms))
  O : ∀ {ow : Str → Bool} {sc : Scope} {X : Cx} {e : Option Expr} {m : Option ME}, Ctx P G C c ow sc kk X → mO n c ow sc e m = true → PO X e (tO P (evo G C m))
  T : ∀ {ow : Str → Bool} {sc : Scope} {X : Cx} {e : Expr} {m : ME}, Ctx P G C c ow sc kk X → mT n c ow sc e m = true → PT X e (tT P (evT G C m))
  W : ∀ {ow : Str → Bool} {sc : Scope} {X : Cx} {op : BoolOp} {vs : List Expr} {p : Pos} {m : ME}, Ctx P G C c ow sc kk X → mT n c ow sc (.BoolOp op vs p) m = true → PW X (.BoolOp op vs p) (tT P (evT G C m))
  Cs : ∀ {ow : Str → Bool} {sc : Scope} {X : Cx} {es : List Expr} {ms : List ME}, Ctx P G C c ow sc kk X → mC n c ow sc es ms = true → PTs X es (tT P (evC G C ms))
  I : ∀ {ow : Str → Bool} {sc : Scope} {X : Cx} {tg e : Expr} {it : IT}, Ctx P G C c ow sc kk X → mI n c ow sc tg e it = true → PI X tg e (tI P (evI G C it))
theorem snd_zero : Snd P G C c kk 0 :=
  ⟨fun _ h => (by simp [mE] at h), fun _ h => (by simp [mEs] at h), fun _ h => (by simp [mEs] at h), fun _ h => (by simp [mO] at h), fun _ h => (by simp [mT] at h), fun _ h => (by simp [mT] at h), fun _ h => (by simp [mC] at h), fun _ h => (by simp [mI] at h)⟩
variable {n : Nat}
theorem evT_spec {m : ME} {loc loc' : Loc} {k : Bool} (h : evT G C m loc = some (k, loc')) : ∃ r d, ev G C m loc = some (r, loc') ∧ res loc' r = some d ∧ truth d = some k := by
  unfold evT at h
  split at h
  · rename_i r l1 h1
    split at h
    · rename_i d h2
      split at h
      · rename_i k' h3
        simp only [Option.some.injEq, Prod.mk.injEq] at h
        obtain ⟨rfl, rfl⟩ := h
        exact ⟨r, d, h1, h2, h3⟩
      · cases h
    · cases h
  · cases h
theorem evT_of {m : ME} {loc loc' : Loc} {k : Bool} {r : R} {d : D} (h1 : ev G C m loc = some (r, loc')) (h2 : res loc' r = some d) (h3 : truth d = some k) : evT G C m loc = some (k, loc') := by
  unfold evT
  rw [h1]
  simp only [h2, h3]
/-- leaves -/
theorem S_c (S : Snd P G C c kk n) (hx : Ctx P G C c ow sc kk X) {e : Expr} {d : D} (h : mE (n + 1) c ow sc e (.c d) = true) : PE X e (tE P (ev G C (.c d))) := by
  have hg : ∀ loc r loc', ev G C (.c d) loc = some (r, loc') → r = .val d ∧ loc' = loc := fun loc r loc' e => by
    simp only [ev, Option.some.injEq, Prod.mk.injEq] at e
    exact ⟨e.1.symm, e.2.symm⟩
  simp only [mE] at h
  split at h
  · split at h
    · cases of_decide_eq_true h
      exact pe_int.imp fun σ H Q q => e_c (fun _ _ => rep_int) hg q
    · cases of_decide_eq_true h
      exact pe_bl.imp fun σ H Q q => e_c (fun _ _ => rep_bl) hg q
    · exact pe_non.imp fun σ H Q q => e_c (fun _ _ => rep_non) hg q
    · cases of_decide_eq_true h
      exact pe_str.imp fun σ H Q q => e_c (fun _ _ => by unfold Rep; rfl) hg q
    · cases h
  · cases h
theorem S_g (S : Snd P G C c kk n) (hx : Ctx P G C c ow sc kk X) {e : Expr} {k : Nat} (h : mE (n + 1) c ow sc e (.g k) = true) : PE X e (tE P (ev G C (.g k))) := by
  have hg : ∀ loc r loc', ev G C (.g k) loc = some (r, loc') → r = .val (G k) ∧ loc' = loc := fun loc r loc' e => by
    simp only [ev, Option.some.injEq, Prod.mk.injEq] at e
    exact ⟨e.1.symm, e.2.symm⟩
  simp only [mE] at h
  split at h
  · simp only [Bool.and_eq_true, decide_eq_true_eq, Bool.not_eq_true'] at h
    obtain ⟨⟨h1, h2⟩, h3⟩ := h
    obtain ⟨u, v, e1, e2, e3⟩ := hx.gl _ h1
    exact (pe_glob (hx.glb h2) e1 e2 h3).imp fun σ H Q q => e_c e3 hg q
  · cases h
theorem S_v (S : Snd P G C c kk n) (hx : Ctx P G C c ow sc kk X) {e : Expr} {i : Nat} (h : mE (n + 1) c ow sc e (.v i) = true) : PE X e (tE P (ev G C (.v i))) := by
  simp only [mE] at h
  split at h
  · refine (kV_spec hx h).imp fun σ H Q q => e_v (fun loc r loc' e => ?_) q
    simp only [ev] at e
    split at e
    · rename_i d hd
      simp only [Option.some.injEq, Prod.mk.injEq] at e
      exact ⟨d, hd, e.1.symm, e.2.symm⟩
    · cases e
  · cases h
theorem S_r (S : Snd P G C c kk n) (hx : Ctx P G C c ow sc kk X) {e : Expr} {i : Nat} (h : mE (n + 1) c ow sc e (.r i) = true) : PE X e (tE P (ev G C (.r i))) := by
  simp only [mE] at h
  split at h
  · refine (kV_spec hx h).imp fun σ H Q q => e_r (fun loc r loc' e => ?_) q
    simp only [ev] at e
    split at e
    · rename_i b ds hd
      simp only [Option.some.injEq, Prod.mk.injEq] at e
      exact .inl ⟨.inl ⟨b, ds, hd⟩, e.1.symm, e.2.symm⟩
    · rename_i ns hd
      simp only [Option.some.injEq, Prod.mk.injEq] at e
      exact .inl ⟨.inr ⟨ns, hd⟩, e.1.symm, e.2.symm⟩
    · rename_i d hd
      simp only [Option.some.injEq, Prod.mk.injEq] at e
      exact .inr ⟨d, hd, e.1.symm, e.2.symm⟩
    · cases e
  · cases h
theorem S_fz (S : Snd P G C c kk n) (hx : Ctx P G C c ow sc kk X) {e : Expr} {i : Nat} (h : mE (n + 1) c ow sc e (.fz i) = true) : PE X e (tE P (ev G C (.fz i))) := by
  simp only [mE] at h
  split at h
  · refine (kV_spec hx h).imp fun σ H Q q => e_fz (fun loc r loc' e => ?_) q
    simp only [ev] at e
    split at e
    · rename_i ds hd
      simp only [Option.some.injEq, Prod.mk.injEq] at e
      exact .inl ⟨ds, hd, e.1.symm, e.2.symm⟩
    · rename_i d hd
      simp only [Option.some.injEq, Prod.mk.injEq] at e
      exact .inr ⟨d, hd, e.1.symm, e.2.symm⟩
    · cases e
  · cases h
theorem S_tup (S : Snd P G C c kk n) (hx : Ctx P G C c ow sc kk X) {e : Expr} {es : List ME} (h : mE (n + 1) c ow sc e (.tup es) = true) : PE X e (tE P (ev G C (.tup es))) := by
  simp only [mE] at h
  split at h
  · simp only [Bool.and_eq_true, decide_eq_true_eq] at h
    refine (pe_tup (S.Es hx h.1)).imp fun σ H Q q => e_tup (fun loc r loc' e => ?_) q
    simp only [ev] at e
    split at e
    · rename_i rs l1 h1
      split at e
      · rename_i ds h2
        simp only [Option.some.injEq, Prod.mk.injEq] at e
        obtain ⟨e1, rfl⟩ := e
        refine ⟨rs, ds, h1, h2, ?_, e1.symm⟩
        rw [mapM_len h2, evs_len h1]
        exact Nat.le_trans h.2 (by decide)
      · cases e
    · cases e
  · cases h
theorem S_lst (S : Snd P G C c kk n) (hx : Ctx P G C c ow sc kk X) {e : Expr} {es : List ME} (h : mE (n + 1) c ow sc e (.lst es) = true) : PE X e (tE P (ev G C (.lst es))) := by
  simp only [mE] at h
  split at h
  · simp only [Bool.and_eq_true, decide_eq_true_eq] at h
    refine (pe_lst (S.Es hx h.1)).imp fun σ H Q q => e_lst (fun loc r loc' e => ?_) q
    simp only [ev] at e
    split at e
    · rename_i rs l1 h1
      split at e
      · rename_i ds h2
        simp only [Option.some.injEq, Prod.mk.injEq] at e
        obtain ⟨e1, rfl⟩ := e
        refine ⟨rs, ds, h1, h2, ?_, e1.symm⟩
        rw [mapM_len h2, evs_len h1]
        exact Nat.le_trans h.2 (by decide)
      · cases e
    · cases e
  · cases h
theorem o1_spec {o : O1} {a : ME} : ∀ loc r loc', ev G C (.o1 o a) loc = some (r, loc') → ∃ ra d, ev G C a loc = some (ra, loc') ∧ res loc' ra = some d ∧ ap1 o d = some r := fun loc r loc' e => by
  simp only [ev] at e
  split at e
  · rename_i ra l1 h1
    split at e
    · rename_i d h2
      split at e
      · rename_i r' h3
        simp only [Option.some.injEq, Prod.mk.injEq] at e
        obtain ⟨rfl, rfl⟩ := e
        exact ⟨ra, d, h1, h2, h3⟩
      · cases e
    · cases e
  · cases e
theorem callO1 (hx : Ctx P G C c ow sc kk X) {o : O1} {a : ME} {x : Expr} {f : Str} {p pos : Pos} (hk : kB c sc f (nameO1 o) = true) (hs : notStar x = true) (he : PE X x (tE P (ev G C a)))
    (hn : (match o with | .neg => false | .isi _ => false | _ => true) = true) : PE X (.Call (.Name f p) [x] [] pos) (tE P (ev G C (.o1 o a))) := by
  obtain ⟨rfl, hg, hm⟩ := kB_spec hx hk
  have ha : PA X [x] (tCons (tE P (ev G C a)) tNil) := pa_cons he pa_nil (star_ok hs)
  have rd : ∀ σ H Q, tE P (ev G C (.o1 o a)) σ H Q → tCB (r1 P (ap1 o)) (tCons (tE P (ev G C a)) tNil) σ H Q := fun σ H Q q => by
    obtain ⟨L0, loc, r, loc', R, e, k⟩ := o1_read (f := ap1 o) o1_spec q
    exact ⟨L0, loc, r, loc', R, e, fun v H' p => ⟨v, rfl, k v H' p⟩⟩
  cases o with
  | neg => cases hn
  | isi t => cases hn
  | len => exact (pe_callB (c_len hx.hK) hg hm (by decide +kernel) ha (by decide +kernel) (by decide +kernel) (star_ok hs) rfl).imp rd
  | int => exact (pe_callTy c_int hg hm (by decide +kernel) ha (by decide +kernel) (by decide +kernel) (star_ok hs) rfl).imp rd
  | list => exact (pe_callTy (c_list hx.hK) hg hm (by decide +kernel) ha (by decide +kernel) (by decide +kernel) (star_ok hs) rfl).imp rd
  | tuple => exact (pe_callTy (c_tuple hx.hK) hg hm (by decide +kernel) ha (by decide +kernel) (by decide +kernel) (star_ok hs) rfl).imp rd
  | sorted => exact (pe_callB (c_sorted hx.hK) hg hm (by decide +kernel) ha (by decide +kernel) (by decide +kernel) (star_ok hs) rfl).imp rd
  | all => exact (pe_callB (c_all hx.calm) hg hm (by decide +kernel) ha (by decide +kernel) (by decide +kernel) (star_ok hs) rfl).imp rd
  | any => exact (pe_callB (c_any hx.calm) hg hm (by decide +kernel) ha (by decide +kernel) (by decide +kernel) (star_ok hs) rfl).imp rd
  | sum => exact (pe_callB (c_sum hx.calm) hg hm (by decide +kernel) ha (by decide +kernel) (by decide +kernel) (star_ok hs) rfl).imp rd
  | abs => exact (pe_callB c_abs hg hm (by decide +kernel) ha (by decide +kernel) (by decide +kernel) (star_ok hs) rfl).imp rd
  | bool => exact (pe_callTy c_bool hg hm (by decide +kernel) ha (by decide +kernel) (by decide +kernel) (star_ok hs) rfl).imp rd
theorem S_isi (S : Snd P G C c kk n) (hx : Ctx P G C c ow sc kk X) {t : Ty} {a : ME} {x : Expr} {f tn : Str} {p p2 pos : Pos} (h1 : kB c sc f "isinstance" = true) (h2 : kB c sc tn (tyS t) = true) (hs : notStar x = true) (he : PE X x (tE P (ev G C a))) :
    PE X (.Call (.Name f p) [x, .Name tn p2] [] pos) (tE P (ev G C (.o1 (.isi t) a))) := by
  obtain ⟨rfl, hg, hm⟩ := kB_spec hx h1
  obtain ⟨rfl, hg2, hm2⟩ := kB_spec hx h2
  have hty : PE X (.Name (tyS t) p2) (tC (.ty (tyN t))) := by
    cases t <;> exact pe_bltn hg2 hm2 (by decide +kernel) rfl (by decide +kernel) (by decide +kernel)
  have ha : PA X [x, .Name (tyS t) p2] (tCons (tE P (ev G C a)) (tCons (tC (.ty (tyN t))) tNil)) := pa_cons he (pa_cons hty pa_nil rfl) (star_ok hs)
  refine (pe_callB (c_isi hx.hK t) hg hm (by decide +kernel) ha (by decide +kernel) (by decide +kernel) (star_ok hs) rfl).imp fun σ H Q q => ?_
  obtain ⟨L0, loc, r, loc', R, e, k⟩ := o1_read (f := ap1 (.isi t)) o1_spec q
  exact ⟨L0, loc, r, loc', R, e, fun v H' p => ⟨v, rfl, k v H' p⟩⟩
theorem S_o1 (S : Snd P G C c kk n) (hx : Ctx P G C c ow sc kk X) {e : Expr} {o : O1} {a : ME} (h : mE (n + 1) c ow sc e (.o1 o a) = true) : PE X e (tE P (ev G C (.o1 o a))) := by
  simp only [mE] at h
  split at h
  · split at h
    · exact (pe_un u_neg (S.E hx h)).imp fun σ H Q q => o1_read o1_spec q
    · cases h
  · split at h
    · simp only [Bool.and_eq_true] at h
      exact S_isi S hx h.1.1.1 h.1.1.2 h.1.2 (S.E hx h.2)
    · cases h
  · rename_i o' hn1 hn2
    split at h
    · simp only [Bool.and_eq_true] at h
      refine callO1 hx h.1.1 h.1.2 (S.E hx h.2) ?_
      cases o <;> first | rfl | exact absurd rfl hn1 | exact absurd rfl (hn2 _)
    · cases h
theorem o2_spec {o : O2} {a b : ME} : ∀ loc r loc', ev G C (.o2 o a b) loc = some (r, loc') → ∃ ra l1 rb d e, ev G C a loc = some (ra, l1) ∧ ev G C b l1 = some (rb, loc') ∧ res loc' (sett ra) = some d ∧ res loc' rb = some e ∧ ap2 o d e = some r := fun loc r loc' e => by
  simp only [ev] at e
  split at e
  · rename_i ra l1 h1
    split at e
    · rename_i rb l2 h2
      split at e
      · rename_i d e' h3 h4
        split at e
        · rename_i r' h5
          simp only [Option.some.injEq, Prod.mk.injEq] at e
          obtain ⟨rfl, rfl⟩ := e
          exact ⟨ra, l1, rb, d, e', h1, h2, h3, h4, h5⟩
        · cases e
      · cases e
    · cases e
  · cases e
theorem S_o2 (S : Snd P G C c kk n) (hx : Ctx P G C c ow sc kk X) {e : Expr} {o : O2} {a b : ME} (h : mE (n + 1) c ow sc e (.o2 o a b) = true) : PE X e (tE P (ev G C (.o2 o a b))) := by
  simp only [mE] at h
  split at h
  · simp only [Bool.and_eq_true, decide_eq_true_eq] at h
    exact (pe_op (d_bin hx.hK h.1.1) (S.E hx h.1.2) (S.E hx h.2)).imp fun σ H Q q => o2_read o2_spec q
  · simp only [Bool.and_eq_true, decide_eq_true_eq] at h
    exact (pe_cmpR (d_cmp hx.hK hx.units h.1.1.1) (S.E hx h.1.2) (S.E hx h.2) (set_ok h.1.1.2)).imp fun σ H Q q => o2_read o2_spec q
  · simp only [Bool.and_eq_true, decide_eq_true_eq] at h
    obtain ⟨⟨⟨rfl, h2⟩, h3⟩, h4⟩ := h
    exact (pe_ix (d_ix hx.hK) (S.E hx h3) (S.E hx h4) (slice_ok h2)).imp fun σ H Q q => o2_read o2_spec q
  · cases h
theorem ch_spec {o o' : O2} {a b d : ME} : ∀ loc r loc', ev G C (.ch o o' a b d) loc = some (r, loc') → ∃ ra l1 rb l2 x y, ev G C a loc = some (ra, l1) ∧ ev G C b l1 = some (rb, l2) ∧ res l2 (sett ra) = some x ∧ res l2 rb = some y ∧
      ((ap2 o x y = some (.val (.bl true)) ∧ ∃ rc e' f1 k, ev G C d l2 = some (rc, loc') ∧ res loc' (sett rb) = some e' ∧ res loc' rc = some f1 ∧ ap2 o' e' f1 = some (.val (.bl k)) ∧ r = .val (.bl k)) ∨ (ap2 o x y = some (.val (.bl false)) ∧ r = .val (.bl false) ∧ loc' = l2)) := fun loc r loc' e => by
  simp only [ev] at e
  split at e
  · rename_i ra l1 h1
    split at e
    · rename_i rb l2 h2
      split at e
      · rename_i x y h3 h4
        split at e
        · rename_i h5
          split at e
          · rename_i rc l3 h6
            split at e
            · rename_i e' f1 h7 h8
              split at e
              · rename_i k h9
                simp only [Option.some.injEq, Prod.mk.injEq] at e
                obtain ⟨rfl, rfl⟩ := e
                exact ⟨ra, l1, rb, l2, x, y, h1, h2, h3, h4, .inl ⟨h5, rc, e', f1, k, h6, h7, h8, h9, rfl⟩⟩
              · cases e
            · cases e
          · cases e
        · rename_i h5
          simp only [Option.some.injEq, Prod.mk.injEq] at e
          obtain ⟨rfl, rfl⟩ := e
          exact ⟨ra, l1, rb, l2, x, y, h1, h2, h3, h4, .inr ⟨h5, rfl, rfl⟩⟩
        · cases e
      · cases e
    · cases e
  · cases e
theorem last_ok {op op' : CmpOp} {y z : Expr} (h : notSet z = true) : lastMarks [op, op'] [y, z] = false := by
  show behindInMarks op' z = false
  exact set_ok h
theorem S_ch (S : Snd P G C c kk n) (hx : Ctx P G C c ow sc kk X) {e : Expr} {o o' : O2} {a b d : ME} (h : mE (n + 1) c ow sc e (.ch o o' a b d) = true) : PE X e (tE P (ev G C (.ch o o' a b d))) := by
  simp only [mE] at h
  split at h
  · simp only [Bool.and_eq_true, decide_eq_true_eq] at h
    exact (pe_chain (d_cmp hx.hK hx.units h.1.1.1.1.1.1) (d_cmp hx.hK hx.units h.1.1.1.1.1.2) (S.E hx h.1.1.2) (S.E hx h.1.2) (S.E hx h.2) (last_ok h.1.1.1.2)).imp fun σ H Q q => e_ch ch_spec q
  · cases h
theorem S_sl (S : Snd P G C c kk n) (hx : Ctx P G C c ow sc kk X) {e : Expr} {a : ME} {lo hi : Option ME} (h : mE (n + 1) c ow sc e (.sl a lo hi) = true) : PE X e (tE P (ev G C (.sl a lo hi))) := by
  simp only [mE] at h
  split at h
  · simp only [Bool.and_eq_true] at h
    refine (pe_slice (d_sl hx.hK) (S.E hx h.1.1) (S.O hx h.1.2) (S.O hx h.2)).imp fun σ H Q q => e_sl (fun loc r loc' e => ?_) q
    simp only [ev] at e
    split at e
    · rename_i ra l1 h1
      split at e
      · rename_i x l2 h2
        split at e
        · rename_i y l3 h3
          split at e
          · rename_i d h4
            split at e
            · rename_i r' h5
              simp only [Option.some.injEq, Prod.mk.injEq] at e
              obtain ⟨rfl, rfl⟩ := e
              exact ⟨ra, l1, x, l2, y, d, h1, h2, h3, h4, h5⟩
            · cases e
          · cases e
        · cases e
      · cases e
    · cases e
  · cases h
theorem and_spec {a b : ME} : ∀ loc r loc', ev G C (.and a b) loc = some (r, loc') → ∃ ra l1 d, ev G C a loc = some (ra, l1) ∧ res l1 ra = some d ∧ ((truth d = some true ∧ ev G C b l1 = some (r, loc')) ∨ (truth d = some false ∧ r = sett ra ∧ loc' = l1)) := fun loc r loc' e => by
  simp only [ev] at e
  split at e
  · rename_i ra l1 h1
    split at e
    · rename_i d h2
      split at e
      · rename_i h3
        exact ⟨ra, l1, d, h1, h2, .inl ⟨h3, e⟩⟩
      · rename_i h3
        simp only [Option.some.injEq, Prod.mk.injEq] at e
        exact ⟨ra, l1, d, h1, h2, .inr ⟨h3, e.1.symm, e.2.symm⟩⟩
      · cases e
    · cases e
  · cases e
theorem or_spec {a b : ME} : ∀ loc r loc', ev G C (.or a b) loc = some (r, loc') → ∃ ra l1 d, ev G C a loc = some (ra, l1) ∧ res l1 ra = some d ∧ ((truth d = some false ∧ ev G C b l1 = some (r, loc')) ∨ (truth d = some true ∧ r = sett ra ∧ loc' = l1)) := fun loc r loc' e => by
  simp only [ev] at e
  split at e
  · rename_i ra l1 h1
    split at e
    · rename_i d h2
      split at e
      · rename_i h3
        simp only [Option.some.injEq, Prod.mk.injEq] at e
        exact ⟨ra, l1, d, h1, h2, .inr ⟨h3, e.1.symm, e.2.symm⟩⟩
      · rename_i h3
        exact ⟨ra, l1, d, h1, h2, .inl ⟨h3, e⟩⟩
      · cases e
    · cases e
  · cases e
theorem S_and (S : Snd P G C c kk n) (hx : Ctx P G C c ow sc kk X) {e : Expr} {a b : ME} (h : mE (n + 1) c ow sc e (.and a b) = true) : PE X e (tE P (ev G C (.and a b))) := by
  simp only [mE] at h
  split at h
  · simp only [Bool.and_eq_true] at h
    exact (pe_andT (S.E hx h.1) (pe_one (S.E hx h.2))).imp fun σ H Q q => e_and hx.hK and_spec q
  · simp only [Bool.and_eq_true] at h
    exact (pe_andT (S.E hx h.1) (S.E hx h.2)).imp fun σ H Q q => e_and hx.hK and_spec q
  · cases h
theorem S_or (S : Snd P G C c kk n) (hx : Ctx P G C c ow sc kk X) {e : Expr} {a b : ME} (h : mE (n + 1) c ow sc e (.or a b) = true) : PE X e (tE P (ev G C (.or a b))) := by
  simp only [mE] at h
  split at h
  · simp only [Bool.and_eq_true] at h
    exact (pe_orT (S.E hx h.1) (pe_one (S.E hx h.2))).imp fun σ H Q q => e_or hx.hK or_spec q
  · simp only [Bool.and_eq_true] at h
    exact (pe_orT (S.E hx h.1) (S.E hx h.2)).imp fun σ H Q q => e_or hx.hK or_spec q
  · cases h
theorem S_not (S : Snd P G C c kk n) (hx : Ctx P G C c ow sc kk X) {e : Expr} {a : ME} (h : mE (n + 1) c ow sc e (.not a) = true) : PE X e (tE P (ev G C (.not a))) := by
  simp only [mE] at h
  split at h
  · refine (pe_notT (S.E hx h)).imp fun σ H Q q => e_not hx.hK (fun loc r loc' e => ?_) q
    simp only [ev] at e
    split at e
    · rename_i ra l1 h1
      split at e
      · rename_i d h2
        split at e
        · rename_i k h3
          simp only [Option.some.injEq, Prod.mk.injEq] at e
          obtain ⟨e1, rfl⟩ := e
          exact ⟨ra, d, k, h1, h2, h3, e1.symm⟩
        · cases e
      · cases e
    · cases e
  · cases h
theorem S_ite (S : Snd P G C c kk n) (hx : Ctx P G C c ow sc kk X) {e : Expr} {t a b : ME} (h : mE (n + 1) c ow sc e (.ite t a b) = true) : PE X e (tE P (ev G C (.ite t a b))) := by
  simp only [mE] at h
  split at h
  · simp only [Bool.and_eq_true] at h
    refine (pe_ifExp (S.T hx h.1.1) (S.E hx h.1.2) (S.E hx h.2)).imp fun σ H Q q => e_ite (fun loc r loc' e => ?_) q
    simp only [ev] at e
    split at e
    · rename_i ra l1 h1
      split at e
      · rename_i d h2
        split at e
        · rename_i h3
          exact ⟨true, l1, evT_of h1 h2 h3, e⟩
        · rename_i h3
          exact ⟨false, l1, evT_of h1 h2 h3, e⟩
        · cases e
      · cases e
    · cases e
  · cases h
theorem doCall_spec {f : Nat} {rs : List R} {loc loc' : Loc} {r : R} (h : doCall C f rs loc = some (r, loc')) : ∃ a a', nodupB (refs rs) = true ∧ argsOf loc rs = some a ∧ C f a = some (r, a') ∧ given rs a' loc = some loc' := by
  unfold doCall at h
  split at h
  · rename_i hn
    split at h
    · rename_i a h1
      split at h
      · rename_i r' a' h2
        split at h
        · rename_i l h3
          simp only [Option.some.injEq, Prod.mk.injEq] at h
          obtain ⟨rfl, rfl⟩ := h
          exact ⟨a, a', hn, h1, h2, h3⟩
        · cases h
      · cases h
    · cases h
  · cases h
theorem S_call (S : Snd P G C c kk n) (hx : Ctx P G C c ow sc kk X) {e : Expr} {f : Nat} {as : List ME} (h : mE (n + 1) c ow sc e (.call f as) = true) : PE X e (tE P (ev G C (.call f as))) := by
  have hg : ∀ loc r loc', ev G C (.call f as) loc = some (r, loc') → ∃ rs l1 a a', evs G C as loc = some (rs, l1) ∧ nodupB (refs rs) = true ∧ argsOf l1 rs = some a ∧ C f a = some (r, a') ∧ given rs a' l1 = some loc' := fun loc r loc' e => by
    simp only [ev] at e
    split at e
    · rename_i rs l1 h1
      obtain ⟨a, a', h2, h3, h4, h5⟩ := doCall_spec e
      exact ⟨rs, l1, a, a', h1, h2, h3, h4, h5⟩
    · cases e
  simp only [mE] at h
  split at h
  · simp only [Bool.and_eq_true, decide_eq_true_eq, Bool.not_eq_true'] at h
    obtain ⟨⟨⟨h1, h2⟩, h3⟩, h4⟩ := h
    obtain ⟨g, fd, ps, F, hm, hk, hb, ar⟩ := hx.fn _ h1
    have has : as = [] := by cases as <;> simp_all
    subst has
    refine (pe_call0 F hx.room (hx.glb h2) hm hk hb .nil pass0 h3).imp fun σ H Q q => ?_
    have := call_read (C := C f) (ar := ps.length) (E := E0) (fun a r a' e => ⟨ar a r a' e, hx.hC f a r a' e⟩) hg q
    obtain ⟨L0, loc, rs, loc', R, e, k⟩ := this
    simp only [evs, Option.some.injEq, Prod.mk.injEq] at e
    obtain ⟨rfl, rfl⟩ := e
    exact k [] H (.none0 R) rfl
  · simp only [Bool.and_eq_true, decide_eq_true_eq, Bool.not_eq_true'] at h
    obtain ⟨⟨⟨⟨h1, h2⟩, h3⟩, h4⟩, h5⟩ := h
    obtain ⟨g, fd, ps, F, hm, hk, hb, ar⟩ := hx.fn _ h1
    rename_i y ys _
    have h4' : notStar y = true ∧ ys.all notStar = true := by simpa only [List.all_cons, Bool.and_eq_true] using h4
    refine (pe_call F hx.room (hx.glb h2) hm hk hb .nil pass0 (S.Es hx h5) h3 (star_ok h4'.1) (star_any h4'.2)).imp fun σ H Q q => ?_
    have := call_read (C := C f) (ar := ps.length) (E := E0) (fun a r a' e => ⟨ar a r a' e, hx.hC f a r a' e⟩) hg q
    obtain ⟨L0, loc, rs, loc', R, e, k⟩ := this
    exact ⟨L0, loc, rs, loc', R, e, fun vs H' p rr => by
      show spOf P (C f) ps.length (vs ++ []) H' Q E0
      rw [List.append_nil]
      exact k vs H' p rr⟩
  · cases h
theorem kw_some {pos : Pos} {env : Env} : ∀ {kws : List Keyword} {ks : List Str}, ks.map some = kws.map (·.arg) → (backToKw pos (keywordEach kws env)).all (·.1.isSome) = true ∧ (backToKw pos (keywordEach kws env)).filterMap (·.1) = ks ∧ (backToKw pos (keywordEach kws env)).any (·.1.isNone) = false
  | [], ks, h => by
    have : ks = [] := by cases ks <;> simp_all
    subst this
    exact ⟨rfl, rfl, rfl⟩
  | ⟨nm, v, p⟩ :: kws, ks, h => by
    cases ks with
    | nil => simp at h
    | cons k ks =>
      simp only [List.map_cons, List.cons.injEq] at h
      obtain ⟨h1, h2⟩ := h
      have h1 : some k = nm := h1
      subst h1
      obtain ⟨i1, i2, i3⟩ := kw_some (pos := pos) (env := env) h2
      refine ⟨?_, ?_, ?_⟩
      · show (true && _) = true
        rw [Bool.true_and]; exact i1
      · show (k :: List.filterMap _ _) = k :: ks
        exact congrArg (k :: ·) i2
      · show (false || _) = false
        rw [Bool.false_or]; exact i3
theorem S_callK (S : Snd P G C c kk n) (hx : Ctx P G C c ow sc kk X) {e : Expr} {f : Nat} {as ks : List ME} {p : List Nat} (h : mE (n + 1) c ow sc e (.callK f as ks p) = true) : PE X e (tE P (ev G C (.callK f as ks p))) := by
  simp only [mE] at h
  split at h
  · rename_i x px y ys kws pos
    simp only [Bool.and_eq_true, List.any_eq_true, decide_eq_true_eq, Bool.not_eq_true'] at h
    obtain ⟨⟨⟨⟨⟨⟨q, hq, ⟨⟨⟨rfl, rfl⟩, hks⟩, hnp⟩, rfl⟩, h2⟩, h3⟩, h4⟩, h5⟩, h6⟩ := h
    obtain ⟨g, fd, ps, gB, gV, F, hm, hk, hb, hV, ar⟩ := hx.kw _ hq
    have h4' : notStar y = true ∧ ys.all notStar = true := by simpa only [List.all_cons, Bool.and_eq_true] using h4
    obtain ⟨i1, i2, i3⟩ := kw_some (pos := pos) (env := X.env) hks
    have hpl : ((backTo pos (starEach (y :: ys) X.env)).any (·.1) || (backToKw pos (keywordEach kws X.env)).any (·.1.isNone)) = false := by
      rw [star_any h4, i3]; rfl
    refine (pe_callK F hx.room (hx.glb h2) hm hk hb pass0 (S.Es hx h5) (S.Ks hx h6) i1 i2 h3 (star_ok h4'.1) hpl).imp fun σ H Q qq => ?_
    obtain ⟨L0, loc, r, loc', R, e, k⟩ := qq
    simp only [ev] at e
    split at e
    · rename_i rs l1 e1
      split at e
      · rename_i ss l2 e2
        split at e
        · rename_i ts e3
          obtain ⟨a, a', d2, d3, d4, d5⟩ := doCall_spec e
          refine ⟨L0, loc, rs, l1, R, e1, fun vs H1 p1 rr => ⟨L0, l1, ss, l2, p1.rel, e2, fun zs H2 p2 rz => ?_⟩⟩
          have rr2 := rr.after p2
          have all := rr2.append rz
          have lv : vs.length = q.np := by rw [← rr.length, evs_len e1, hnp]
          have lz : zs.length = q.ks.length := by
            have h1 := congrArg List.length hks
            rw [← rz.length, evs_len e2, ← mEs_len h6]
            simpa using h1.symm
          show spOf P (C q.f) ps.length (gV vs zs) H2 Q E0
          rw [hV vs zs lv lz]
          have rt : RepRs P L0 l2 σ H2 ts (permV q.perm (vs ++ zs)) := perm_rep all e3
          refine ⟨?_, Lc L0 l2 σ a (permV q.perm (vs ++ zs)), a, r, a', args_rel p2.rel rt d3 d2, d4, hx.hC _ _ _ _ d4, fun v H3 p3 => ?_⟩
          · rw [← rt.length, argsOf_len d3, ar _ _ _ d4]
          · exact k v H3 ((p1.trans p2).trans (call_post p2.rel rt d3 d2 d5 (hx.hC _ _ _ _ d4) p3))
        · cases e
      · cases e
    · cases e
  · cases h
end
end MP

namespace MP
open PySem PySem.Spec PyProof.Rows L2
section
variable {P : RP} {G : Nat → D} {C : CallS} {c : CK} {ow : Str → Bool} {sc : Scope} {kk n : Nat} {X : Cx}
theorem kT_spec {x : Str} {i : Nat} {pos : Pos} (hx : Ctx P G C c ow sc kk X) (h : kT c ow sc x i = true) : PG X (.Name x pos) (gName i) ∧ X.N[i]? = some x ∧ L2.Loc X.env.scope x ∧ (X.fn x = true ∨ X.env.scope.names.lookup x = some .local) := by
  unfold kT at h
  simp only [Bool.and_eq_true, decide_eq_true_eq] at h
  obtain ⟨h1, h2⟩ := h
  have hi : X.N[i]? = some x := by rw [hx.hN]; exact h1
  have hl : L2.Loc X.env.scope x ∧ (X.fn x = true ∨ X.env.scope.names.lookup x = some .local) := by
    unfold L2.Loc
    rw [hx.hsc]
    split at h2
    · exact ⟨.inl (by assumption), .inr (by assumption)⟩
    · exact ⟨.inr (by assumption), .inl (hx.fnok _ h2)⟩
    · cases h2
  exact ⟨pg_name (by rw [hx.hN]; exact hx.nd) hi hl.1 hl.2, hi, hl.1, hl.2⟩
theorem kTs_spec (hx : Ctx P G C c ow sc kk X) : ∀ {es : List Expr} {is : List Nat}, kTs c ow sc es is = true → PGs X es (gsOf is) ∧ (assignEach es X.env).length = is.length ∧ (assignEach es X.env).findIdx? (·.1) = none
  | [], is, h => by
    cases is with
    | nil => exact ⟨pgs_nil, rfl, rfl⟩
    | cons _ _ => simp only [kTs] at h; cases h
  | e :: es, is, h => by
    simp only [kTs] at h
    split at h
    · rename_i x p i is'
      simp only [Bool.and_eq_true] at h
      obtain ⟨h1, h2, h3⟩ := kTs_spec hx h.2
      refine ⟨pgs_cons (kT_spec hx h.1).1 h1 rfl, ?_, ?_⟩
      · show (assignEach es X.env).length + 1 = is'.length + 1
        rw [h2]
      · show List.findIdx? (·.1) ((false, assign (.Name x p) X.env) :: assignEach es X.env) = none
        rw [List.findIdx?_cons]
        simp only [Bool.false_eq_true, if_false]
        rw [h3]; rfl
    · cases h
theorem kP_spec {tg : Expr} {p : Pat} (hx : Ctx P G C c ow sc kk X) (h : kP c ow sc tg p = true) : PG X tg (tG P p) := by
  cases p with
  | v i =>
    simp only [kP] at h
    split at h
    · exact (kT_spec hx h).1.imp fun v σ H Q q => g_name q
    · cases h
  | tup is =>
    simp only [kP] at h
    split at h
    · obtain ⟨h1, h2, h3⟩ := kTs_spec hx h
      exact (pg_tup hx.calm h1 h2 h3).imp fun v σ H Q q => g_tup hx.hK q
    · cases h
theorem ownP_snd {own : List Nat} : (ownP c own).map (·.2) = own := by
  unfold ownP
  rw [List.map_map]
  exact List.map_id _
/-- the block of a comprehension -/
theorem Ctx.blk (hx : Ctx P G C c ow sc kk X) {scope : Scope} (hk : scope.kind = .function) (s : Shared) (H : Hp) (C' : Addr) (cl : List (Str × Addr)) (fp : List Addr) :
    Ctx P G C c (blkOw scope) (relS scope sc) kk (X.blk s H scope (compEnvC scope cl C' X.env) fp) :=
  ⟨hx.hN, hx.nd, by rw [← hx.hsc]; rfl, hk, hx.hK, hx.calm, rfl, hx.room, hx.bl, hx.gl, hx.fn, hx.kw, hx.hC, fun x h => h⟩
theorem S_lc (S : Snd P G C c kk n) (hx : Ctx P G C c ow sc kk X) {e : Expr} {own : List Nat} {p : Pat} {it : IT} {cs : List ME} {elt : ME} (h : mE (n + 1) c ow sc e (.lc own p it cs elt) = true) :
    ∃ el tg iter ifs scope pos, e = .ListComp el [⟨tg, iter, ifs, 0⟩] scope pos ∧ ∃ wi g tt te, PI X tg iter wi ∧ BlkOk X.N X.env.scope scope (ownP c own) ∧
      (∀ (s : Shared) (H : Hp) (C : Addr) (cl : List (Str × Addr)) (fp : List Addr), PG (X.blk s H scope (compEnvC scope cl C X.env) fp) tg g) ∧ (∀ (s : Shared) (H : Hp) (C : Addr) (cl : List (Str × Addr)) (fp : List Addr), PTs (X.blk s H scope (compEnvC scope cl C X.env) fp) ifs tt) ∧
      (∀ (s : Shared) (H : Hp) (C : Addr) (cl : List (Str × Addr)) (fp : List Addr), PE (X.blk s H scope (compEnvC scope cl C X.env) fp) el te) ∧ (∀ x, foldedSetIterable iter X.env x = pure x) ∧
      ∀ σ H Q, tE P (ev G C (.lc own p it cs elt)) σ H Q → tLc wi g tt te ((ownP c own).map (·.2)) σ H Q := by
  simp only [mE] at h
  split at h
  · rename_i el tg iter ifs as scope pos
    simp only [Bool.and_eq_true, decide_eq_true_eq, List.all_eq_true] at h
    obtain ⟨⟨⟨⟨⟨⟨⟨h1, h2⟩, h3⟩, h4⟩, h5⟩, h6⟩, h7⟩, h8⟩ := h
    subst h1
    have hb := blkOk_by h2
    have hb' : BlkOk X.N X.env.scope scope (ownP c own) := by rw [hx.hN, hx.hsc]; exact hb
    refine ⟨el, tg, iter, ifs, scope, pos, rfl, _, _, _, _, S.I hx h6, hb', fun s H C' cl fp => kP_spec (hx.blk hb.kind s H C' cl fp) h4, fun s H C' cl fp => S.Cs (hx.blk hb.kind s H C' cl fp) h7, fun s H C' cl fp => S.E (hx.blk hb.kind s H C' cl fp) h8, fold_ok h5, fun σ H Q q => ?_⟩
    rw [ownP_snd]
    refine lc_read (fun i hi => by have := h3 i hi; simpa using this) (fun loc r loc' e => ?_) q
    simp only [ev] at e
    split at e
    · rename_i items l1 e1
      split at e
      · rename_i hc
        simp only [Bool.and_eq_true, List.all_eq_true, decide_eq_true_eq] at hc
        split at e
        · rename_i ds l2 e2
          simp only [Option.some.injEq, Prod.mk.injEq] at e
          exact ⟨items, l1, ds, l2, e1, hc.1, hc.2, e2, e.1.symm, e.2.symm⟩
        · cases e
      · cases e
    · cases e
  · cases h
theorem S_lcE (S : Snd P G C c kk n) (hx : Ctx P G C c ow sc kk X) {e : Expr} {own : List Nat} {p : Pat} {it : IT} {cs : List ME} {elt : ME} (h : mE (n + 1) c ow sc e (.lc own p it cs elt) = true) : PE X e (tE P (ev G C (.lc own p it cs elt))) := by
  obtain ⟨el, tg, iter, ifs, scope, pos, rfl, wi, g, tt, te, h1, h2, h3, h4, h5, h6, h7⟩ := S_lc S hx h
  exact (pe_lc hx.calm (by rw [hx.hN]; exact hx.nd) h1 h2 h3 h4 h5 h6).imp h7

/-! methods -/
theorem few {cpos : Pos} {e : Expr} {env : Env} (h : notStar e = true) : ((backTo cpos (starEach [e] env)).all (fun x => !x.1) && (backToKw cpos (keywordEach [] env)).all (fun x => x.1.isSome) && decide ([e].length + ([] : List Keyword).length + (if ([] : List Keyword).isEmpty then 0 else 1) < 30)) = true := by
  rw [star_ok h]; rfl
theorem S_app (S : Snd P G C c kk n) (hx : Ctx P G C c ow sc kk X) {e : Expr} {i : Nat} {a : ME} (h : mE (n + 1) c ow sc e (.app i a) = true) : PE X e (tE P (ev G C (.app i a))) := by
  simp only [mE] at h
  split at h
  · simp only [Bool.and_eq_true, decide_eq_true_eq] at h
    obtain ⟨⟨⟨⟨rfl, h2⟩, h3⟩, h4⟩, h5⟩ := h
    have ha := pa_cons (S.E hx h5) pa_nil (star_ok h4)
    refine (pe_bm PySem.F.plainAttrs_list PySem.F.slot_list_append PySem.F.type_list_append mt_append (kV_spec hx h2) ha rfl (few h4) h3 (star_ok h4) rfl).imp fun σ H Q q => m_arg (fun loc r loc' e => ?_) q
    simp only [ev] at e
    split at e
    · rename_i b0 ds0 h0
      split at e
      · rename_i re l1 h1
        split at e
        · rename_i d b ds hd hl
          split at e
          · rename_i hb
            simp only [Option.some.injEq, Prod.mk.injEq] at e
            exact ⟨b0, ds0, re, l1, b, ds, ds ++ [d], .non, h0, h1, hl, e.1.symm, e.2.symm, fun L1 a x vs H1 Q f1 f2 f3 f4 => ap_app f1 f2 (f3 d hd) hb f4⟩
          · cases e
        · cases e
      · cases e
    · cases e
  · cases h
theorem S_ext (S : Snd P G C c kk n) (hx : Ctx P G C c ow sc kk X) {e : Expr} {i : Nat} {a : ME} (h : mE (n + 1) c ow sc e (.ext i a) = true) : PE X e (tE P (ev G C (.ext i a))) := by
  simp only [mE] at h
  split at h
  · simp only [Bool.and_eq_true, decide_eq_true_eq] at h
    obtain ⟨⟨⟨⟨rfl, h2⟩, h3⟩, h4⟩, h5⟩ := h
    have ha := pa_cons (S.E hx h5) pa_nil (star_ok h4)
    refine (pe_bm PySem.F.plainAttrs_list PySem.F.slot_list_extend PySem.F.type_list_extend mt_extend (kV_spec hx h2) ha rfl (few h4) h3 (star_ok h4) rfl).imp fun σ H Q q => m_arg (fun loc r loc' e => ?_) q
    simp only [ev] at e
    split at e
    · rename_i b0 ds0 h0
      split at e
      · rename_i re l1 h1
        split at e
        · rename_i es b ds hd hl
          split at e
          · rename_i hb
            simp only [Option.some.injEq, Prod.mk.injEq] at e
            exact ⟨b0, ds0, re, l1, b, ds, ds ++ es, .non, h0, h1, hl, e.1.symm, e.2.symm, fun L1 a x vs H1 Q f1 f2 f3 f4 => ap_ext f1 f2 (f3 _ hd) hb f4⟩
          · cases e
        · cases e
      · cases e
    · cases e
  · cases h
theorem S_popAt (S : Snd P G C c kk n) (hx : Ctx P G C c ow sc kk X) {e : Expr} {i : Nat} {a : ME} (h : mE (n + 1) c ow sc e (.popAt i a) = true) : PE X e (tE P (ev G C (.popAt i a))) := by
  simp only [mE] at h
  split at h
  · simp only [Bool.and_eq_true, decide_eq_true_eq] at h
    obtain ⟨⟨⟨⟨rfl, h2⟩, h3⟩, h4⟩, h5⟩ := h
    have ha := pa_cons (S.E hx h5) pa_nil (star_ok h4)
    refine (pe_bm PySem.F.plainAttrs_list PySem.F.slot_list_pop PySem.F.type_list_pop mt_popAt (kV_spec hx h2) ha rfl (few h4) h3 (star_ok h4) rfl).imp fun σ H Q q => m_arg (fun loc r loc' e => ?_) q
    simp only [ev] at e
    split at e
    · rename_i b0 ds0 h0
      split at e
      · rename_i k l1 h1
        split at e
        · rename_i b ds hl
          split at e
          · rename_i hb
            split at e
            · rename_i d hd
              simp only [Option.some.injEq, Prod.mk.injEq] at e
              exact ⟨b0, ds0, _, l1, b, ds, _, d, h0, h1, hl, e.1.symm, e.2.symm, fun L1 a x vs H1 Q f1 f2 f3 f4 => ap_popAt f1 f2 (f3 _ rfl) hb.1 hb.2 hd f4⟩
            · cases e
          · cases e
        · cases e
      · cases e
    · cases e
  · cases h
theorem S_pop (S : Snd P G C c kk n) (hx : Ctx P G C c ow sc kk X) {e : Expr} {i : Nat} (h : mE (n + 1) c ow sc e (.pop i) = true) : PE X e (tE P (ev G C (.pop i))) := by
  simp only [mE] at h
  split at h
  · simp only [Bool.and_eq_true, decide_eq_true_eq] at h
    obtain ⟨⟨rfl, h2⟩, h3⟩ := h
    refine (pe_bm0 PySem.F.plainAttrs_list PySem.F.slot_list_pop PySem.F.type_list_pop mt_pop (kV_spec hx h2) rfl h3).imp fun σ H Q q => m_no (fun loc r loc' e => ?_) q
    simp only [ev] at e
    split at e
    · rename_i b ds hl
      split at e
      · rename_i d hd
        simp only [Option.some.injEq, Prod.mk.injEq] at e
        exact ⟨b, ds, _, d, hl, e.1.symm, e.2.symm, fun L1 a vs H1 Q f1 f2 f4 => ap_pop f1 f2 hd f4⟩
      · cases e
    · cases e
  · cases h
theorem S_clear (S : Snd P G C c kk n) (hx : Ctx P G C c ow sc kk X) {e : Expr} {i : Nat} (h : mE (n + 1) c ow sc e (.clear i) = true) : PE X e (tE P (ev G C (.clear i))) := by
  simp only [mE] at h
  split at h
  · simp only [Bool.and_eq_true, decide_eq_true_eq] at h
    obtain ⟨⟨rfl, h2⟩, h3⟩ := h
    refine (pe_bm0 PySem.F.plainAttrs_list PySem.F.slot_list_clear PySem.F.type_list_clear mt_clear (kV_spec hx h2) rfl h3).imp fun σ H Q q => m_no (fun loc r loc' e => ?_) q
    simp only [ev] at e
    split at e
    · rename_i b ds hl
      simp only [Option.some.injEq, Prod.mk.injEq] at e
      exact ⟨b, ds, _, .non, hl, e.1.symm, e.2.symm, fun L1 a vs H1 Q f1 f2 f4 => ap_clear f1 f4⟩
    · cases e
  · cases h
/-! the script -/
theorem S_sIx (S : Snd P G C c kk n) (hx : Ctx P G C c ow sc kk X) {e : Expr} {i : Nat} {a : ME} (h : mE (n + 1) c ow sc e (.sIx i a) = true) : PE X e (tE P (ev G C (.sIx i a))) := by
  simp only [mE] at h
  split at h
  · simp only [Bool.and_eq_true] at h
    refine (pe_ix ix_list (kV_spec hx h.1.1) (S.E hx h.2) (slice_ok h.1.2)).imp fun σ H Q q => x_ix hx.hK (fun loc r loc' e => ?_) q
    simp only [ev] at e
    split at e
    · rename_i ns h0
      split at e
      · rename_i k l1 h1
        split at e
        · rename_i hk
          split at e
          · rename_i m hm
            simp only [Option.some.injEq, Prod.mk.injEq] at e
            obtain ⟨e1, rfl⟩ := e
            exact ⟨ns, k, m, h0, h1, hk, hm, e1.symm⟩
          · cases e
        · cases e
      · cases e
    · cases e
  · cases h
theorem S_sLen (S : Snd P G C c kk n) (hx : Ctx P G C c ow sc kk X) {e : Expr} {i : Nat} (h : mE (n + 1) c ow sc e (.sLen i) = true) : PE X e (tE P (ev G C (.sLen i))) := by
  simp only [mE] at h
  split at h
  · simp only [Bool.and_eq_true] at h
    obtain ⟨rfl, hg, hm⟩ := kB_spec hx h.1
    refine (pe_callB call_len_seq hg hm (by decide +kernel) (pa_cons (kV_spec hx h.2) pa_nil rfl) (by decide +kernel) (by decide +kernel) rfl rfl).imp fun σ H Q q => ?_
    refine x_len hx.hK (fun loc r loc' e => ?_) q
    simp only [ev] at e
    split at e
    · rename_i ns h0
      simp only [Option.some.injEq, Prod.mk.injEq] at e
      exact ⟨ns, h0, e.1.symm, e.2.symm⟩
    · cases e
  · cases h
theorem S_sSl (S : Snd P G C c kk n) (hx : Ctx P G C c ow sc kk X) {e : Expr} {i : Nat} {lo hi : Option ME} (h : mE (n + 1) c ow sc e (.sSl i lo hi) = true) : PE X e (tE P (ev G C (.sSl i lo hi))) := by
  simp only [mE] at h
  split at h
  · simp only [Bool.and_eq_true] at h
    refine (pe_slice sl_list (kV_spec hx h.1.1) (S.O hx h.1.2) (S.O hx h.2)).imp fun σ H Q q => x_sl hx.hK (fun loc r loc' e => ?_) q
    simp only [ev] at e
    split at e
    · rename_i ns h0
      split at e
      · rename_i x l1 h1
        split at e
        · rename_i y l2 h2
          simp only [Option.some.injEq, Prod.mk.injEq] at e
          obtain ⟨e1, rfl⟩ := e
          exact ⟨ns, x, l1, y, h0, h1, h2, e1.symm⟩
        · cases e
      · cases e
    · cases e
  · cases h
theorem S_E (S : Snd P G C c kk n) (hx : Ctx P G C c ow sc kk X) {e : Expr} {m : ME} (h : mE (n + 1) c ow sc e m = true) : PE X e (tE P (ev G C m)) := by
  cases m with
  | c d => exact S_c S hx h
  | g k => exact S_g S hx h
  | v i => exact S_v S hx h
  | r i => exact S_r S hx h
  | fz i => exact S_fz S hx h
  | tup es => exact S_tup S hx h
  | lst es => exact S_lst S hx h
  | o1 o a => exact S_o1 S hx h
  | o2 o a b => exact S_o2 S hx h
  | ch o o' a b d => exact S_ch S hx h
  | sl a lo hi => exact S_sl S hx h
  | and a b => exact S_and S hx h
  | or a b => exact S_or S hx h
  | not a => exact S_not S hx h
  | ite t a b => exact S_ite S hx h
  | call f as => exact S_call S hx h
  | callK f as ks p => exact S_callK S hx h
  | lc own p it cs elt => exact S_lcE S hx h
  | app i a => exact S_app S hx h
  | pop i => exact S_pop S hx h
  | popAt i a => exact S_popAt S hx h
  | clear i => exact S_clear S hx h
  | ext i a => exact S_ext S hx h
  | sIx i a => exact S_sIx S hx h
  | sLen i => exact S_sLen S hx h
  | sSl i lo hi => exact S_sSl S hx h
theorem evs_nil {loc loc' : Loc} {rs : List R} (e : evs G C [] loc = some (rs, loc')) : rs = [] ∧ loc' = loc := by
  simp only [evs, Option.some.injEq, Prod.mk.injEq] at e
  exact ⟨e.1.symm, e.2.symm⟩
theorem evs_cons {m : ME} {ms : List ME} {loc loc' : Loc} {rs : List R} (e : evs G C (m :: ms) loc = some (rs, loc')) : ∃ r l1 rs', ev G C m loc = some (r, l1) ∧ evs G C ms l1 = some (rs', loc') ∧ rs = sett r :: rs' := by
  simp only [evs] at e
  split at e
  · rename_i r l1 h1
    split at e
    · rename_i rs' l2 h2
      simp only [Option.some.injEq, Prod.mk.injEq] at e
      obtain ⟨e1, rfl⟩ := e
      exact ⟨r, l1, rs', h1, h2, e1.symm⟩
    · cases e
  · cases e
theorem S_Es (S : Snd P G C c kk n) (hx : Ctx P G C c ow sc kk X) {es : List Expr} {ms : List ME} (h : mEs (n + 1) c ow sc es ms = true) : PA X es (tA P (evs G C ms)) := by
  simp only [mEs] at h
  split at h
  · exact pa_nil.imp fun σ H Q q => a_nil (fun loc rs loc' e => evs_nil e) q
  · simp only [Bool.and_eq_true] at h
    exact (pa_cons (S.E hx h.1.2) (S.Es hx h.2) (star_ok h.1.1)).imp fun σ H Q q => a_cons (fun loc rs loc' e => evs_cons e) q
  · cases h
theorem S_Ks (S : Snd P G C c kk n) (hx : Ctx P G C c ow sc kk X) {ks : List Keyword} {ms : List ME} (h : mEs (n + 1) c ow sc (ks.map (·.value)) ms = true) : PK X ks (tA P (evs G C ms)) := by
  cases ks with
  | nil =>
    cases ms with
    | nil => exact pk_nil.imp fun σ H Q q => a_nil (fun loc rs loc' e => evs_nil e) q
    | cons _ _ => simp [mEs] at h
  | cons k ks =>
    obtain ⟨karg, kval, kpos⟩ := k
    cases ms with
    | nil => simp [mEs] at h
    | cons m ms =>
      simp only [List.map_cons, mEs, Bool.and_eq_true] at h
      exact (pk_cons (S.E hx h.1.2) (S.Ks hx h.2)).imp fun σ H Q q => a_cons (fun loc rs loc' e => evs_cons e) q
theorem S_O (S : Snd P G C c kk n) (hx : Ctx P G C c ow sc kk X) {e : Option Expr} {m : Option ME} (h : mO (n + 1) c ow sc e m = true) : PO X e (tO P (evo G C m)) := by
  simp only [mO] at h
  split at h
  · refine po_none.imp fun σ H Q q => o_none (fun loc o loc' e => ?_) q
    simp only [evo, Option.some.injEq, Prod.mk.injEq] at e
    exact ⟨e.1.symm, e.2.symm⟩
  · refine (po_some (S.E hx h)).imp fun σ H Q q => o_some (fun loc o loc' e => ?_) q
    simp only [evo] at e
    split at e
    · rename_i i l1 h1
      simp only [Option.some.injEq, Prod.mk.injEq] at e
      obtain ⟨e1, rfl⟩ := e
      exact ⟨i, h1, e1.symm⟩
    · cases e
  · cases h
theorem evT_and {a b : ME} : ∀ loc k loc', evT G C (.and a b) loc = some (k, loc') → ∃ d l1, evT G C a loc = some (d, l1) ∧ ((d = true ∧ evT G C b l1 = some (k, loc')) ∨ (d = false ∧ k = false ∧ loc' = l1)) := fun loc k loc' e => by
  obtain ⟨r, d, e1, e2, e3⟩ := evT_spec e
  obtain ⟨ra, l1, da, h1, h2, h3⟩ := and_spec _ _ _ e1
  rcases h3 with ⟨h3, h4⟩ | ⟨h3, rfl, rfl⟩
  · exact ⟨true, l1, evT_of h1 h2 h3, .inl ⟨rfl, evT_of h4 e2 e3⟩⟩
  · rw [res_sett, h2] at e2
    cases e2
    rw [h3] at e3
    cases e3
    exact ⟨false, loc', evT_of h1 h2 h3, .inr ⟨rfl, rfl, rfl⟩⟩
theorem evT_or {a b : ME} : ∀ loc k loc', evT G C (.or a b) loc = some (k, loc') → ∃ d l1, evT G C a loc = some (d, l1) ∧ ((d = false ∧ evT G C b l1 = some (k, loc')) ∨ (d = true ∧ k = true ∧ loc' = l1)) := fun loc k loc' e => by
  obtain ⟨r, d, e1, e2, e3⟩ := evT_spec e
  obtain ⟨ra, l1, da, h1, h2, h3⟩ := or_spec _ _ _ e1
  rcases h3 with ⟨h3, h4⟩ | ⟨h3, rfl, rfl⟩
  · exact ⟨false, l1, evT_of h1 h2 h3, .inl ⟨rfl, evT_of h4 e2 e3⟩⟩
  · rw [res_sett, h2] at e2
    cases e2
    rw [h3] at e3
    cases e3
    exact ⟨true, loc', evT_of h1 h2 h3, .inr ⟨rfl, rfl, rfl⟩⟩
theorem evT_not {a : ME} : ∀ loc k loc', evT G C (.not a) loc = some (k, loc') → ∃ b, evT G C a loc = some (b, loc') ∧ k = !b := fun loc k loc' e => by
  obtain ⟨r, d, e1, e2, e3⟩ := evT_spec e
  simp only [ev] at e1
  split at e1
  · rename_i ra l1 h1
    split at e1
    · rename_i da h2
      split at e1
      · rename_i kb h3
        simp only [Option.some.injEq, Prod.mk.injEq] at e1
        obtain ⟨rfl, rfl⟩ := e1
        cases e2
        cases e3
        exact ⟨kb, evT_of h1 h2 h3, rfl⟩
      · cases e1
    · cases e1
  · cases e1
/-- a comparison answers a truth -/
theorem cmp_bl {o : O2} {op : CmpOp} (ho : cmpOf o = some op) {d e : D} {r : R} (h : ap2 o d e = some r) : ∃ k, r = .val (.bl k) := by
  cases o <;> simp only [cmpOf, reduceCtorEq] at ho
  · simp only [ap2] at h; split at h <;> cases h; exact ⟨_, rfl⟩
  · simp only [ap2] at h; split at h <;> cases h; exact ⟨_, rfl⟩
  · simp only [ap2] at h
    split at h
    · cases h; exact ⟨_, rfl⟩
    · obtain ⟨b, hb, rfl⟩ := Option.map_eq_some_iff.mp h; exact ⟨_, rfl⟩
    · cases h
  · simp only [ap2, cmpI] at h; split at h <;> cases h; exact ⟨_, rfl⟩
  · simp only [ap2, cmpI] at h; split at h <;> cases h; exact ⟨_, rfl⟩
  · simp only [ap2, cmpI] at h; split at h <;> cases h; exact ⟨_, rfl⟩
  · simp only [ap2] at h
    split at h
    · split at h <;> cases h; exact ⟨_, rfl⟩
    · split at h <;> cases h; exact ⟨_, rfl⟩
    · cases h
  · simp only [ap2] at h
    split at h
    · split at h <;> cases h; exact ⟨_, rfl⟩
    · split at h <;> cases h; exact ⟨_, rfl⟩
    · cases h
  · simp only [ap2] at h
    split at h <;> cases h <;> exact ⟨_, rfl⟩
  · simp only [ap2] at h
    split at h <;> cases h <;> exact ⟨_, rfl⟩
theorem evT_cmp {o : O2} {op : CmpOp} (ho : cmpOf o = some op) {a b : ME} : ∀ loc k loc', evT G C (.o2 o a b) loc = some (k, loc') → ev G C (.o2 o a b) loc = some (.val (.bl k), loc') := fun loc k loc' e => by
  obtain ⟨r, d, e1, e2, e3⟩ := evT_spec e
  obtain ⟨ra, l1, rb, x, y, h1, h2, h3, h4, h5⟩ := o2_spec _ _ _ e1
  obtain ⟨k', rfl⟩ := cmp_bl ho h5
  cases e2
  cases e3
  exact e1
theorem evT_ch {o o' : O2} {a b d : ME} : ∀ loc k loc', evT G C (.ch o o' a b d) loc = some (k, loc') → ev G C (.ch o o' a b d) loc = some (.val (.bl k), loc') := fun loc k loc' e => by
  obtain ⟨r, x, e1, e2, e3⟩ := evT_spec e
  obtain ⟨ra, l1, rb, l2, x', y', h1, h2, h3, h4, h5⟩ := ch_spec _ _ _ e1
  rcases h5 with ⟨h5, rc, e', f1, k', h6, h7, h8, h9, rfl⟩ | ⟨h5, rfl, rfl⟩
  · cases e2; cases e3; exact e1
  · cases e2; cases e3; exact e1
theorem S_T0 (S : Snd P G C c kk n) (hx : Ctx P G C c ow sc kk X) {e : Expr} {m : ME} (h1 : plainTest e = true) (h2 : mE n c ow sc e m = true) : PT X e (tT P (evT G C m)) :=
  (pt_truth (S.E hx h2) (plain_ok h1)).imp fun σ H Q q => t_of hx.hK (fun loc k loc' e => evT_spec e) q
theorem S_W (S : Snd P G C c kk n) (hx : Ctx P G C c ow sc kk X) {op : BoolOp} {vs : List Expr} {p : Pos} {m : ME} (h : mT (n + 1) c ow sc (.BoolOp op vs p) m = true) : PW X (.BoolOp op vs p) (tT P (evT G C m)) := by
  simp only [mT] at h
  split at h
  · rename_i heq; cases heq
  · rename_i x y p' heq
    cases heq
    split at h
    · simp only [Bool.and_eq_true] at h
      exact (pw_and (S.T hx h.1) (pw_and1 (S.T hx h.2))).imp fun σ H Q q => t_and evT_and q
    · cases h
  · rename_i x y z r p' heq
    cases heq
    split at h
    · simp only [Bool.and_eq_true] at h
      exact (pw_and (S.T hx h.1) (S.W hx h.2)).imp fun σ H Q q => t_and evT_and q
    · cases h
  · rename_i x y p' heq
    cases heq
    split at h
    · simp only [Bool.and_eq_true] at h
      exact (pw_or (S.T hx h.1) (pw_or1 (S.T hx h.2))).imp fun σ H Q q => t_or evT_or q
    · cases h
  · rename_i x y z r p' heq
    cases heq
    split at h
    · simp only [Bool.and_eq_true] at h
      exact (pw_or (S.T hx h.1) (S.W hx h.2)).imp fun σ H Q q => t_or evT_or q
    · cases h
  · rename_i heq; cases heq
  · rename_i heq; cases heq
  · simp [plainTest] at h
theorem S_T (S : Snd P G C c kk n) (hx : Ctx P G C c ow sc kk X) {e : Expr} {m : ME} (h : mT (n + 1) c ow sc e m = true) : PT X e (tT P (evT G C m)) := by
  have h0 := h
  simp only [mT] at h
  split at h
  · split at h
    · exact (pt_not (S.T hx h)).imp fun σ H Q q => t_not evT_not q
    · cases h
  · exact (S_W S hx h0).pt
  · exact (S_W S hx h0).pt
  · exact (S_W S hx h0).pt
  · exact (S_W S hx h0).pt
  · split at h
    · simp only [Bool.and_eq_true, decide_eq_true_eq] at h
      refine (pt_cmpR (d_cmp hx.hK hx.units h.1.1.1) (S.E hx h.1.2) (S.E hx h.2) (set_ok h.1.1.2)).imp fun σ H Q q => ?_
      exact o2_read o2_spec (t_bl (evT_cmp h.1.1.1) q)
    · cases h
  · split at h
    · simp only [Bool.and_eq_true, decide_eq_true_eq] at h
      refine (pt_chain (d_cmp hx.hK hx.units h.1.1.1.1.1.1) (d_cmp hx.hK hx.units h.1.1.1.1.1.2) (S.E hx h.1.1.2) (S.E hx h.1.2) (S.E hx h.2) (last_ok h.1.1.1.2)).imp fun σ H Q q => ?_
      exact e_ch ch_spec (t_bl evT_ch q)
    · cases h
  · simp only [Bool.and_eq_true] at h
    exact S_T0 S hx h.1 h.2
theorem S_Cs (S : Snd P G C c kk n) (hx : Ctx P G C c ow sc kk X) {es : List Expr} {ms : List ME} (h : mC (n + 1) c ow sc es ms = true) : PTs X es (tT P (evC G C ms)) := by
  simp only [mC] at h
  split at h
  · refine ⟨fun pins s σ H Q I q => pts_nil.run pins s σ H Q I ?_⟩
    obtain ⟨L0, loc, b, loc', R, e, k⟩ := q
    simp only [evC, Option.some.injEq, Prod.mk.injEq] at e
    obtain ⟨rfl, rfl⟩ := e
    exact k H (.none0 R)
  · rename_i e m
    refine ⟨fun pins s σ H Q I q => (pts_one (S.T hx h)).run pins s σ H Q I ?_⟩
    obtain ⟨L0, loc, b, loc', R, e, k⟩ := q
    refine ⟨L0, loc, b, loc', R, ?_, k⟩
    simp only [evC] at e
    split at e
    · rename_i r l1 h1
      split at e
      · rename_i d h2
        split at e
        · rename_i h3
          simp only [evC, Option.some.injEq, Prod.mk.injEq] at e
          obtain ⟨rfl, rfl⟩ := e
          exact evT_of h1 h2 h3
        · rename_i h3
          simp only [Option.some.injEq, Prod.mk.injEq] at e
          obtain ⟨rfl, rfl⟩ := e
          exact evT_of h1 h2 h3
        · cases e
      · cases e
    · cases e
  · cases h
theorem S_I (S : Snd P G C c kk n) (hx : Ctx P G C c ow sc kk X) {tg e : Expr} {it : IT} (h : mI (n + 1) c ow sc tg e it = true) : PI X tg e (tI P (evI G C it)) := by
  cases it with
  | seq a =>
    simp only [mI] at h
    refine (pi_list (S.E hx h)).imp fun σ H Q q => i_seq (fun loc items loc' e => ?_) q
    simp only [evI] at e
    split at e
    · rename_i r l1 h1
      split at e
      · rename_i ds h2
        simp only [Option.some.injEq, Prod.mk.injEq] at e
        obtain ⟨rfl, rfl⟩ := e
        exact ⟨r, h1, h2⟩
      · cases e
    · cases e
  | tpl a =>
    simp only [mI] at h
    refine (pi_tup (S.E hx h)).imp fun σ H Q q => i_tpl hx.hK (fun loc items loc' e => ?_) q
    simp only [evI] at e
    split at e
    · rename_i r l1 h1
      split at e
      · rename_i ds h2
        simp only [Option.some.injEq, Prod.mk.injEq] at e
        obtain ⟨rfl, rfl⟩ := e
        exact ⟨r, h1, h2⟩
      · cases e
    · cases e
  | rng1 a =>
    simp only [mI] at h
    split at h
    · simp only [Bool.and_eq_true] at h
      obtain ⟨rfl, hg, hm⟩ := kB_spec hx h.1.1
      refine (pi_range1 hg hm (pa_cons (S.E hx h.2) pa_nil (star_ok h.1.2)) (star_ok h.1.2)).imp fun σ H Q q => i_rng1 (fun loc items loc' e => ?_) q
      simp only [evI] at e
      split at e
      · rename_i r l1 h1
        split at e
        · rename_i m
          split at e
          · rename_i hs
            simp only [Option.some.injEq, Prod.mk.injEq] at e
            obtain ⟨rfl, rfl⟩ := e
            exact ⟨m, h1, hs, rfl⟩
          · cases e
        · cases e
      · cases e
    · cases h
  | rng2 a b =>
    simp only [mI] at h
    split at h
    · simp only [Bool.and_eq_true] at h
      obtain ⟨⟨⟨⟨h1, h2⟩, h3⟩, h4⟩, h5⟩ := h
      obtain ⟨rfl, hg, hm⟩ := kB_spec hx h1
      refine (pi_range2 hg hm (pa_cons (S.E hx h4) (pa_cons (S.E hx h5) pa_nil (star_ok h3)) (star_ok h2)) (by rw [star_ok h2, star_ok h3]; rfl) (by rw [star_ok h3]; rfl)).imp fun σ H Q q => i_rng2 (fun loc items loc' e => ?_) q
      simp only [evI] at e
      split at e
      · rename_i r l1 h1
        split at e
        · rename_i r' l2 h2
          split at e
          · rename_i m1 m2
            split at e
            · rename_i hs
              simp only [Option.some.injEq, Prod.mk.injEq] at e
              simp only [Bool.and_eq_true] at hs
              obtain ⟨rfl, rfl⟩ := e
              exact ⟨_, l1, _, h1, h2, hs.1, hs.2, rfl⟩
            · cases e
          · cases e
        · cases e
      · cases e
    · cases h
  | enum a =>
    simp only [mI] at h
    split at h
    · simp only [Bool.and_eq_true] at h
      obtain ⟨rfl, hg, hm⟩ := kB_spec hx h.1.1
      refine (pi_enum hg hm (pa_cons (S.E hx h.2) pa_nil (star_ok h.1.2)) (star_ok h.1.2)).imp fun σ H Q q => i_enum (fun loc items loc' e => ?_) q
      simp only [evI] at e
      split at e
      · rename_i r l1 h1
        split at e
        · rename_i ds h2
          simp only [Option.some.injEq, Prod.mk.injEq] at e
          obtain ⟨rfl, rfl⟩ := e
          exact ⟨r, ds, h1, h2, rfl⟩
        · cases e
      · cases e
    · cases h
  | zip a b =>
    simp only [mI] at h
    split at h
    · simp only [Bool.and_eq_true] at h
      obtain ⟨⟨⟨⟨h1, h2⟩, h3⟩, h4⟩, h5⟩ := h
      obtain ⟨rfl, hg, hm⟩ := kB_spec hx h1
      refine (pi_zip hg hm (pa_cons (S.E hx h4) (pa_cons (S.E hx h5) pa_nil (star_ok h3)) (star_ok h2)) (star_ok h2) (by rw [star_ok h3]; rfl)).imp fun σ H Q q => i_zip (fun loc items loc' e => ?_) q
      simp only [evI] at e
      split at e
      · rename_i r l1 h1
        split at e
        · rename_i r' l2 h2
          split at e
          · rename_i ds es h3 h4
            simp only [Option.some.injEq, Prod.mk.injEq] at e
            obtain ⟨rfl, rfl⟩ := e
            exact ⟨r, l1, r', ds, es, h1, h2, h3, h4, rfl⟩
          · cases e
        · cases e
      · cases e
    · cases h
theorem snd_all : ∀ n, Snd P G C c kk n
  | 0 => snd_zero
  | n + 1 =>
    have S := snd_all n
    ⟨fun hx h => S_E S hx h, fun hx h => S_Es S hx h, fun hx h => S_Ks S hx h, fun hx h => S_O S hx h, fun hx h => S_T S hx h, fun hx h => S_W S hx h, fun hx h => S_Cs S hx h, fun hx h => S_I S hx h⟩
end
end MP

namespace MP
open PySem PySem.Spec PyProof.Rows L2

/-! ### the look at statements -/
def isComp : Expr → Bool
  | .ListComp _ _ _ _ => true
  | _ => false
def notTup : Expr → Bool
  | .Tuple _ _ _ => false
  | _ => true
def isName : Expr → Bool
  | .Name _ _ => true
  | _ => false
/-- [..] given to a local name on its line -/
def kSw (sc : Scope) (x : Str) (py : Pos) : Expr → Bool
  | .ListComp _ _ scope pos => decide (sc.names.lookup x = some .local) && (py.line == pos.line) && !(scope.names.any fun (n, k) => n == x && (k == .local || k == .cell))
  | _ => false
/-- a name that inner scopes read -/
def kCl (sc : Scope) (x : Str) : Bool := decide (sc.names.lookup x = some .cell)
theorem sw_cell {v : Expr} {x : Str} {p : Pos} {l : Nat} {env : Env} (h : env.scope.names.lookup x = some .cell) : swapsWith v (some (.Name x p)) l env = pure false := by
  have e : env.kindOf x = some .cell := h
  have e2 : (some NameKind.cell == some NameKind.local) = false := rfl
  cases v <;> first | rfl | (unfold swapsWith; simp [e, e2])
def augOf : O2 → Option Operator
  | .add => some .Add
  | .sub => some .Sub
  | _ => none
mutual
def mS : Nat → CK → (Str → Bool) → Scope → Stmt → MS → Bool
  | 0, _, _, _, _, _ => false
  | n + 1, c, ow, sc, s, m => match m with
    | .set p e => match s with
      | .Assign [.Name x py] v _ => kP c ow sc (.Name x py) p && (notComp v || kSw sc x py v || kCl sc x) && mE n c ow sc v e
      | .Assign [.Tuple es k pt] v _ => kP c ow sc (.Tuple es k pt) p && notComp v && notTup v && mE n c ow sc v e
      | _ => false
    | .own i e => match s with
      | .Assign [.Name x py] v _ => kT c ow sc x i && (notComp v || kSw sc x py v || kCl sc x) && mE n c ow sc v e
      | _ => false
    | .par i j a b => match s with
      | .Assign [.Tuple [.Name x px, .Name y py] _ _] (.Tuple [v, w] _ _) _ => decide (c.N[i]? = some x) && decide (c.N[j]? = some y) && decide (i ≠ j) && decide (sc.names.lookup x = some .local) && decide (sc.names.lookup y = some .local) && (py.line == px.line) && decide (x ≠ y) &&
          notStar v && notStar w && !(foldedForSure 8 v && foldedForSure 8 w) && !(constantsAlone 8 v && constantsAlone 8 w) && mE n c ow sc v a && mE n c ow sc w b
      | _ => false
    | .aug i o e => match s with
      | .AugAssign (.Name x _) op v _ => kT c ow sc x i && decide (augOf o = some op) && mE n c ow sc v e
      | _ => false
    | .ex e => match s with
      | .Expr v _ => notComp v && mE n c ow sc v e
      | _ => false
    | .ret e => match s with
      | .Return (some v) _ => mE n c ow sc v e
      | _ => false
    | .retN => match s with
      | .Return none _ => true
      | _ => false
    | .ite t a b => match s with
      | .If x y z _ => mT n c ow sc x t && mSs n c ow sc y a && mSs n c ow sc z b
      | _ => false
    | .loop p it b => match s with
      | .For tg iter body [] _ => kP c ow sc tg p && notSet iter && mI n c ow sc tg iter it && mSs n c ow sc body b
      | _ => false
    | .wh t b => match s with
      | .While x body [] _ => mT n c ow sc x t && mSs n c ow sc body b
      | _ => false
    | .put i k e => match s with
      | .Assign [.Subscript (.Name x _) y _] v _ => kV c sc x i && (notComp v && notSlice y) && mE n c ow sc y k && mE n c ow sc v e
      | _ => false
    | .pass => match s with
      | .Pass _ => true
      | _ => false
    | .brk => match s with
      | .Break _ => true
      | _ => false
    | .cont => match s with
      | .Continue _ => true
      | _ => false
def mSs : Nat → CK → (Str → Bool) → Scope → List Stmt → List MS → Bool
  | 0, _, _, _, _, _ => false
  | n + 1, c, ow, sc, ss, ms => match ss, ms with
    | [], [] => true
    | s :: ss, m :: ms => mS n c ow sc s m && mSs n c ow sc ss ms
    | _, _ => false
end
section
variable {P : RP} {G : Nat → D} {C : CallS} {c : CK} {ow : Str → Bool} {sc : Scope} {kk n F : Nat} {X : Cx}
/-- a value that is given to a name: its reading, whatever it is -/
theorem set_name (hx : Ctx P G C c ow sc kk X) {x : Str} {i : Nat} {py pos : Pos} {v : Expr} {e : ME} (hk : kT c ow sc x i = true) (hv : (notComp v || kSw sc x py v || kCl sc x) = true) (h : mE n c ow sc v e = true) :
    ∃ te, PS X (.Assign [.Name x py] v pos) (tAsg te (gName i)) ∧ ∀ σ H Q, tE P (ev G C e) σ H Q → te σ H Q := by
  obtain ⟨_, hi, hl, hf⟩ := kT_spec (pos := py) hx hk
  have nd : X.N.Nodup := by rw [hx.hN]; exact hx.nd
  have S := snd_all (P := P) (G := G) (C := C) (c := c) (kk := kk) n
  by_cases hc : notComp v = true
  · exact ⟨_, ps_set nd hi hl (S.E hx h) (comp_ok hc) hf, fun _ _ _ q => q⟩
  by_cases hc2 : kCl sc x = true
  · have e0 : X.env.scope.names.lookup x = some .cell := by rw [hx.hsc]; exact of_decide_eq_true hc2
    exact ⟨_, ps_set nd hi hl (S.E hx h) (sw_cell e0) hf, fun _ _ _ q => q⟩
  · have hs : kSw sc x py v = true := by simpa [hc, hc2] using hv
    cases v <;> first | (exfalso; simp [kSw] at hs; done) | skip
    rename_i el gs scope p
    cases n with
    | zero => simp [mE] at h
    | succ n =>
      have S' := snd_all (P := P) (G := G) (C := C) (c := c) (kk := kk) n
      have hs' := hs
      unfold kSw at hs'
      simp only [Bool.and_eq_true, decide_eq_true_eq, Bool.not_eq_true'] at hs'
      obtain ⟨⟨s1, s2⟩, s3⟩ := hs'
      cases e <;> first | (exfalso; simp [mE] at h; done) | (exfalso; simp only [mE] at h; split at h <;> simp at h; done) | skip
      · rename_i own p' it cs elt
        obtain ⟨el', tg, iter, ifs, scope', pos', heq, wi, g, tt, te, h1, h2, h3, h4, h5, h6, h7⟩ := S_lc S' hx h
        cases heq
        have e0 : X.env.scope.names.lookup x = some .local := by rw [hx.hsc]; exact s1
        have ek : X.env.scope.kind = .function := by rw [hx.hsc]; exact hx.kind
        exact ⟨_, ps_setLc hx.calm nd hi e0 (sw_true ek e0 s2 s3) h1 h2 h3 h4 h5 h6, h7⟩
theorem swap_ok {env : Env} {x y : Str} {px py pt pt2 : Pos} {kt k2 : Nat} {a b : Expr} (hk : env.scope.kind = .function) (hx : env.scope.names.lookup x = some .local) (hy : env.scope.names.lookup y = some .local) (hl : (py.line == px.line) = true) (hne : x ≠ y)
    (ha : notStar a = true) (hb : notStar b = true) (h1 : (foldedForSure 8 a && foldedForSure 8 b) = false) (h2 : (constantsAlone 8 a && constantsAlone 8 b) = false) :
    swappedStores [.Tuple [.Name x px, .Name y py] kt pt] (.Tuple [a, b] k2 pt2) env = pure (some [x, y]) := by
  have ex : env.kindOf x = some .local := hx
  have ey : env.kindOf y = some .local := hy
  have bk : env.blockKind = .function := by unfold Env.blockKind; rw [hk]; rfl
  have key : ∀ f : Expr → Bool, f a = false → f b = false → [a, b].any f = false := fun f q1 q2 => by
    simp [q1, q2]
  have e2 : ([a, b].all (foldedForSure 8)) = false := by
    show (foldedForSure 8 a && (foldedForSure 8 b && true)) = false
    rw [Bool.and_true]; exact h1
  have e3 : ([a, b].all (constantsAlone 8)) = false := by
    show (constantsAlone 8 a && (constantsAlone 8 b && true)) = false
    rw [Bool.and_true]; exact h2
  have hlx : (px.line == px.line) = true := by simp
  have ne1 : (y == x) = false := by
    rw [beq_eq_false_iff_ne]; exact Ne.symm hne
  have ne2 : (x == y) = false := by
    rw [beq_eq_false_iff_ne]; exact hne
  have ed : [x, y].eraseDups = [x, y] := by
    simp [List.eraseDups_cons, ne1, ne2, hne, Ne.symm hne]
  unfold swappedStores
  simp only [bk, e2, e3, List.length_cons, List.length_nil, Expr.pos, List.head?_cons, Option.map_some, Option.getD_some, List.filterMap_cons, List.filterMap_nil, ex, ey, hl, hlx]
  rw [key _ (by cases a <;> first | rfl | cases ha) (by cases b <;> first | rfl | cases hb)]
  simp [ed]
theorem sole_ok {t v : Expr} {l : Nat} {env : Env} (h : notComp v = true) : swapsWithSole [t] v l env = pure false := by
  unfold swapsWithSole
  exact comp_ok h
theorem asub_ok {o i : Expr} {pos : Pos} {env : Env} (h : notSlice i = true) : ∀ v, assign (.Subscript o i pos) env v = (do
      let ov ← holding [v] (eval o env)
      let iv ← holding [v, ov] (eval i env)
      standAt pos
      holding [v, ov, iv] (setItem ov iv v)
      release [v, ov, iv] []) := by
  intro v
  cases i <;> first | rfl | cases h
theorem ip_add' : PIp X .Add (ipI fun i j => i + j) := ip_add
structure SndS (P : RP) (G : Nat → D) (C : CallS) (c : CK) (kk F n : Nat) : Prop where
  S : ∀ {ow : Str → Bool} {sc : Scope} {X : Cx} {s : Stmt} {m : MS}, Ctx P G C c ow sc kk X → mS n c ow sc s m = true → PS X s (tS P (sx G C F m))
  Ss : ∀ {ow : Str → Bool} {sc : Scope} {X : Cx} {ss : List Stmt} {ms : List MS}, Ctx P G C c ow sc kk X → mSs n c ow sc ss ms = true → PSs X ss (tS P (sxs G C F ms))
theorem omap_nx {o : Option Loc} {out : Out} (h : o.map Out.nx = some out) : ∃ l, o = some l ∧ out = .nx l := by
  cases o with
  | none => cases h
  | some l => cases h; exact ⟨l, rfl, rfl⟩
theorem pass_own {M : Model} {A : Around} {env : Env} {xe : Value → Shared → Prop} (h : xe = fun _ _ => False) : PassesOwn M A env xe := by subst h; exact PassesOwn.never
theorem St_S (S : SndS P G C c kk F n) (hx : Ctx P G C c ow sc kk X) {s : Stmt} {m : MS} (h : mS (n + 1) c ow sc s m = true) : PS X s (tS P (sx G C F m)) := by
  have SE := snd_all (P := P) (G := G) (C := C) (c := c) (kk := kk) n
  have nd : X.N.Nodup := by rw [hx.hN]; exact hx.nd
  cases m with
  | set p e =>
    have hg : ∀ loc o, sx G C F (.set p e) loc = some o → ∃ r l1 d l2, ev G C e loc = some (r, l1) ∧ toVal r = some d ∧ bindP p d l1 = some l2 ∧ o = .nx l2 := fun loc o e => by
      simp only [sx] at e
      split at e
      · rename_i r l1 h1
        split at e
        · rename_i d h2
          obtain ⟨l, h3, rfl⟩ := omap_nx e
          exact ⟨r, l1, d, l, h1, h2, h3, rfl⟩
        · cases e
      · cases e
    simp only [mS] at h
    split at h
    · simp only [Bool.and_eq_true] at h
      cases p with
      | v i =>
        obtain ⟨te, h1, h2⟩ := set_name (P := P) (G := G) (C := C) (kk := kk) hx (by simpa only [kP] using h.1.1) h.1.2 h.2
        refine h1.imp fun D σ H q => ?_
        obtain ⟨L0, loc, r, l1, R, e1, k⟩ := s_set hg q
        exact h2 _ _ _ ⟨L0, loc, r, l1, R, e1, fun v H1 p1 => g_name (k v H1 p1)⟩
      | tup is => simp [kP] at h
    · simp only [Bool.and_eq_true] at h
      obtain ⟨⟨⟨h1, h2⟩, h3⟩, h4⟩ := h
      rename_i es k pt v ps
      refine (ps_asg (SE.E hx h4) (kP_spec hx h1) (sole_ok h2) ?_ rfl).imp fun D σ H q => s_set hg q
      cases v <;> first | rfl | cases h3
    · cases h
  | own i e =>
    simp only [mS] at h
    split at h
    · simp only [Bool.and_eq_true] at h
      obtain ⟨te, h1, h2⟩ := set_name (P := P) (G := G) (C := C) (kk := kk) hx h.1.1 h.1.2 h.2
      refine h1.imp fun D σ H q => ?_
      obtain ⟨L0, loc, r, l1, R, e1, k⟩ := s_own (ge := ev G C e) (i := i) (fun loc o e => by
        simp only [sx] at e
        split at e
        · rename_i ds l1 h1
          obtain ⟨l, h3, rfl⟩ := omap_nx e
          exact ⟨ds, l1, l, h1, h3, rfl⟩
        · cases e) q
      exact h2 _ _ _ ⟨L0, loc, r, l1, R, e1, k⟩
    · cases h
  | par i j a b =>
    simp only [mS] at h
    split at h
    · simp only [Bool.and_eq_true, decide_eq_true_eq, Bool.not_eq_true'] at h
      obtain ⟨⟨⟨⟨⟨⟨⟨⟨⟨⟨⟨⟨h1, h2⟩, h3⟩, h4⟩, h5⟩, h6⟩, h7⟩, h8⟩, h9⟩, h10⟩, h11⟩, h12⟩, h13⟩ := h
      have ek : X.env.scope.kind = .function := by rw [hx.hsc]; exact hx.kind
      have ex := h4
      have ey := h5
      rw [← hx.hsc] at ex ey
      refine (ps_par hx.calm nd (by rw [hx.hN]; exact h1) (by rw [hx.hN]; exact h2) h3 ex ey (pa_cons (SE.E hx h12) (pa_cons (SE.E hx h13) pa_nil (star_ok h9)) (star_ok h8)) (swap_ok ek ex ey h6 h7 h8 h9 h10 h11)).imp fun D σ H q => ?_
      obtain ⟨L0, loc, out, R, e, k⟩ := q
      simp only [sx] at e
      split at e
      · rename_i r l1 e1
        split at e
        · rename_i r' l2 e2
          split at e
          · rename_i d d' e3 e4
            split at e
            · rename_i l3 e5
              obtain ⟨l4, e6, rfl⟩ := omap_nx e
              refine ⟨L0, loc, r, l1, R, e1, fun x H1 p1 => ⟨L0, l1, r', l2, p1.rel, e2, fun y H2 p2 => ⟨x, y, rfl, ?_⟩⟩⟩
              have rx : Rep P (Lv L0 l2 σ) H2 d x := by
                have := (p1.rep.sett).after p2
                rw [tval_sett e3] at this
                exact this
              have q1 := put_dat p2.rel e5 rx
              have q2 := put_dat q1.rel e6 (Rep.keep q1.kp q1.lv _ _ (toVal_rep p2.rep e4))
              exact k _ _ (((p1.trans p2).st.trans q1).trans q2)
            · cases e
          · cases e
        · cases e
      · cases e
    · cases h
  | aug i o e =>
    simp only [mS] at h
    split at h
    · simp only [Bool.and_eq_true, decide_eq_true_eq] at h
      obtain ⟨⟨h1, h2⟩, h3⟩ := h
      rename_i x px op v ps
      obtain ⟨_, hi, hl, hf⟩ := kT_spec (pos := px) hx h1
      have main : ∀ (f : Int → Int → Int), PIp X op (ipI f) → (∀ loc out, sx G C F (.aug i o e) loc = some out → ∃ x y r l1 l2, loc[i]? = some (.dat (.int x)) ∧ ev G C e loc = some (r, l1) ∧ toVal r = some (.int y) ∧ put l1 i (.dat (.int (f x y))) = some l2 ∧ out = .nx l2) →
          PS X (.AugAssign (.Name x px) op v ps) (tS P (sx G C F (.aug i o e))) := fun f hp hm => by
        refine (ps_aug nd hi hl (SE.E hx h3) hp hf).imp fun D σ H q => ?_
        obtain ⟨L0, loc, out, R, e', k⟩ := q
        obtain ⟨a, b, r, l1, l2, hd, e1, hb, e4, rfl⟩ := hm _ _ e'
        obtain ⟨w, f1, f2⟩ := R.dat i _ hd
        refine ⟨w, f1, L0, loc, r, l1, R, e1, fun y H1 p1 => ?_⟩
        have ry := toVal_rep p1.rep hb
        unfold Rep at f2 ry
        exact ⟨a, b, f2, ry, k _ _ (p1.st.trans (put_dat p1.rel e4 rep_int))⟩
      cases o <;> first | (exfalso; simp [augOf] at h2; done) | skip
      · simp only [augOf, Option.some.injEq] at h2
        subst h2
        refine main _ ip_add fun loc out hh => ?_
        simp only [sx] at hh
        split at hh
        · rename_i d hd
          split at hh
          · rename_i r l1 e1
            split at hh
            · rename_i a b hb
              obtain ⟨l2, e4, rfl⟩ := omap_nx hh
              exact ⟨a, b, r, l1, l2, hd, e1, hb, e4, rfl⟩
            · cases hh
          · cases hh
        · cases hh
      · simp only [augOf, Option.some.injEq] at h2
        subst h2
        refine main _ ip_sub fun loc out hh => ?_
        simp only [sx] at hh
        split at hh
        · rename_i d hd
          split at hh
          · rename_i r l1 e1
            split at hh
            · rename_i a b hb
              obtain ⟨l2, e4, rfl⟩ := omap_nx hh
              exact ⟨a, b, r, l1, l2, hd, e1, hb, e4, rfl⟩
            · cases hh
          · cases hh
        · cases hh
    · cases h
  | ex e =>
    simp only [mS] at h
    split at h
    · simp only [Bool.and_eq_true] at h
      refine (ps_expr (SE.E hx h.2) (comp_ok h.1)).imp fun D σ H q => s_ex (fun loc o e => ?_) q
      simp only [sx] at e
      split at e
      · rename_i r l1 h1
        cases e
        exact ⟨r, l1, h1, rfl⟩
      · cases e
    · cases h
  | ret e =>
    simp only [mS] at h
    split at h
    · refine (ps_ret (SE.E hx h)).imp fun D σ H q => s_ret (fun loc o e => ?_) q
      simp only [sx] at e
      split at e
      · rename_i r l1 h1
        split at e
        · cases e
        · cases e
          exact ⟨r, l1, h1, rfl⟩
      · cases e
    · cases h
  | retN =>
    simp only [mS] at h
    split at h
    · exact ps_retN.imp fun D σ H q => s_retN (fun loc o e => by simp only [sx, Option.some.injEq] at e; exact e.symm) q
    · cases h
  | ite t a b =>
    simp only [mS] at h
    split at h
    · simp only [Bool.and_eq_true] at h
      refine (ps_if (SE.T hx h.1.1) (S.Ss hx h.1.2) (S.Ss hx h.2)).imp fun D σ H q => s_if (fun loc o e => ?_) q
      simp only [sx] at e
      split at e
      · rename_i l1 h1
        exact ⟨true, l1, h1, e⟩
      · rename_i l1 h1
        exact ⟨false, l1, h1, e⟩
      · cases e
    · cases h
  | loop p it b =>
    simp only [mS] at h
    split at h
    · simp only [Bool.and_eq_true] at h
      refine (ps_for (pass_own hx.xe) hx.calm (SE.I hx h.1.2) (kP_spec hx h.1.1.1) (S.Ss hx h.2) (fold_ok h.1.1.2)).imp fun D σ H q => s_loop (fun loc o e => ?_) q
      simp only [sx] at e
      split at e
      · rename_i items l1 h1
        exact ⟨items, l1, h1, e⟩
      · cases e
    · cases h
  | wh t b =>
    simp only [mS] at h
    split at h
    · simp only [Bool.and_eq_true] at h
      exact (ps_while (pass_own hx.xe) (SE.T hx h.1) (S.Ss hx h.2)).imp fun D σ H q => s_while (n := F) (fun loc o e => by simpa only [sx] using e) q
    · cases h
  | put i k e =>
    simp only [mS] at h
    split at h
    · simp only [Bool.and_eq_true] at h
      refine (ps_asg (SE.E hx h.2) (pg_sub (kV_spec hx h.1.1.1) (SE.E hx h.1.2) set_list (asub_ok h.1.1.2.2)) (sole_ok h.1.1.2.1) rfl rfl).imp fun D σ H q => s_put (fun loc o e => ?_) q
      simp only [sx] at e
      split at e
      · rename_i r l1 h1
        split at e
        · rename_i b0 ds0 h0
          split at e
          · rename_i n l2 h2
            split at e
            · rename_i d b ds h3 h4
              split at e
              · rename_i h5
                cases e
                exact ⟨r, l1, n, l2, d, b, ds, b0, ds0, h1, h0, h2, h3, h4, h5.1, h5.2, rfl⟩
              · cases e
            · cases e
          · cases e
        · cases e
      · cases e
    · cases h
  | pass =>
    simp only [mS] at h
    split at h
    · exact ps_pass.imp fun D σ H q => s_nil (fun loc => by simp only [sx]) q
    · cases h
  | brk =>
    simp only [mS] at h
    split at h
    · exact ps_break.imp fun D σ H q => s_bk (fun loc o e => by simp only [sx, Option.some.injEq] at e; exact e.symm) q
    · cases h
  | cont =>
    simp only [mS] at h
    split at h
    · exact ps_continue.imp fun D σ H q => s_ct (fun loc o e => by simp only [sx, Option.some.injEq] at e; exact e.symm) q
    · cases h
theorem snds_all : ∀ n, SndS P G C c kk F n
  | 0 => ⟨fun _ h => by simp [mS] at h, fun _ h => by simp [mSs] at h⟩
  | n + 1 => by
    have S := snds_all n
    refine ⟨fun hx h => St_S S hx h, fun {ow sc X ss ms} hx h => ?_⟩
    simp only [mSs] at h
    split at h
    · exact pss_nil.imp fun D σ H q => s_nil (fun loc => by simp only [sxs]) q
    · simp only [Bool.and_eq_true] at h
      refine (pss_cons (S.S hx h.1) (S.Ss hx h.2)).imp fun D σ H q => s_seq (fun loc o e => ?_) q
      simp only [sxs] at e
      split at e
      · rename_i l1 h1
        exact .inl ⟨l1, h1, e⟩
      · rename_i h1
        exact .inr ⟨e, fun l z => h1 l (by rw [e, z])⟩
    · cases h
end
end MP

namespace MP
open PySem PySem.Spec PyProof.Rows L2
section
variable {P : RP} {H H' : Hp} {L0 : Addr → Prop} {loc loc' : Loc} {σ σ' : Sg}
theorem pad_get {m i : Nat} {s : Slot} (h : (loc ++ List.replicate m Slot.none)[i]? = some s) : (i < loc.length ∧ loc[i]? = some s) ∨ (loc.length ≤ i ∧ s = .none) := by
  by_cases hl : i < loc.length
  · rw [List.getElem?_append_left hl] at h; exact .inl ⟨hl, h⟩
  · rw [List.getElem?_append_right (by omega)] at h
    rw [List.getElem?_replicate] at h
    split at h
    · cases h; exact .inr ⟨by omega, rfl⟩
    · cases h
theorem pad_own (hl : loc.length = σ.length) {m : Nat} {a : Addr} : OwnAt (loc ++ List.replicate m Slot.none) (σ ++ List.replicate m none) a ↔ OwnAt loc σ a := by
  constructor
  · rintro ⟨i, b, ds, e1, e2⟩
    rcases pad_get e1 with ⟨h, e⟩ | ⟨_, e⟩
    · rw [List.getElem?_append_left (by omega)] at e2
      exact ⟨i, b, ds, e, e2⟩
    · cases e
  · rintro ⟨i, b, ds, e1, e2⟩
    have := lt_of_get e1
    exact ⟨i, b, ds, by rw [List.getElem?_append_left this]; exact e1, by rw [List.getElem?_append_left (by omega)]; exact e2⟩
theorem Rel.pad (R : Rel P L0 loc σ H) (m : Nat) : Rel P L0 (loc ++ List.replicate m Slot.none) (σ ++ List.replicate m none) H := by
  have ow := fun a => @pad_own loc σ R.len m a
  have lv : ∀ b, Lv L0 (loc ++ List.replicate m Slot.none) (σ ++ List.replicate m none) b → Lv L0 loc σ b := fun b z => z.imp id (ow b).mp
  have gl : ∀ {i : Nat}, i < loc.length → (σ ++ List.replicate m none)[i]? = σ[i]? := fun {i} h => List.getElem?_append_left (by have := R.len; omega)
  refine ⟨by simp [R.len], R.l0, fun i d e => ?_, fun i b ds e => ?_, fun i j b c ds es a e1 e2 e3 e4 => ?_, fun i ns e => ?_⟩
  · rcases pad_get e with ⟨h, e⟩ | ⟨_, e⟩
    · obtain ⟨v, e1, r⟩ := R.dat i d e
      exact ⟨v, by rw [gl h]; exact e1, Rep.weak lv r⟩
    · cases e
  · rcases pad_get e with ⟨h, e⟩ | ⟨_, e⟩
    · obtain ⟨a, vs, e1, h1, n1, r⟩ := R.own i b ds e
      exact ⟨a, vs, by rw [gl h]; exact e1, h1, n1, Reps.weak lv r⟩
    · cases e
  · rcases pad_get e1 with ⟨h, e1⟩ | ⟨_, e1⟩
    · rcases pad_get e2 with ⟨h', e2⟩ | ⟨_, e2⟩
      · rw [gl h] at e3
        rw [gl h'] at e4
        exact R.inj _ _ _ _ _ _ _ e1 e2 e3 e4
      · cases e2
    · cases e1
  · rcases pad_get e with ⟨h, e⟩ | ⟨_, e⟩
    · obtain ⟨a, e1, h1⟩ := R.scr i ns e
      exact ⟨a, by rw [gl h]; exact e1, h1.keep (fun _ _ z _ => z) fun b z => .inl (lv b z)⟩
    · cases e
theorem lent_spec : ∀ {a l a' : Loc}, lent a l = some a' → a'.length = a.length ∧ ∀ (i : Nat) (s : Slot), a[i]? = some s →
    (∃ ds ds', s = .own true ds ∧ l[i]? = some (.own true ds') ∧ a'[i]? = some (.own true ds')) ∨ ((∀ b ds, s ≠ .own b ds) ∧ a'[i]? = some s)
  | [], l, a', h => by
    simp only [lent, Option.some.injEq] at h
    subst h
    exact ⟨rfl, fun i s e => by simp at e⟩
  | s0 :: a, l, a', h => by
    have step : ∀ {l0 : Slot} {l1 : Loc} {r : Loc} {s1 : Slot}, lent a l1 = some r → ((∃ ds ds', s0 = .own true ds ∧ l0 = .own true ds' ∧ s1 = .own true ds') ∨ ((∀ b ds, s0 ≠ .own b ds) ∧ s1 = s0)) →
        (s1 :: r).length = (s0 :: a).length ∧ ∀ (i : Nat) (s : Slot), (s0 :: a)[i]? = some s →
          (∃ ds ds', s = .own true ds ∧ (l0 :: l1)[i]? = some (.own true ds') ∧ (s1 :: r)[i]? = some (.own true ds')) ∨ ((∀ b ds, s ≠ .own b ds) ∧ (s1 :: r)[i]? = some s) := fun {l0 l1 r s1} h1 h2 => by
      obtain ⟨e1, e2⟩ := lent_spec h1
      refine ⟨by simp [e1], fun i s e => ?_⟩
      cases i with
      | zero =>
        simp at e; subst e
        rcases h2 with ⟨ds, ds', q1, q2, q3⟩ | ⟨q1, q2⟩
        · exact .inl ⟨ds, ds', q1, by simp [q2], by simp [q3]⟩
        · exact .inr ⟨q1, by simp [q2]⟩
      | succ i =>
        rcases e2 i s (by simpa using e) with ⟨ds, ds', q1, q2, q3⟩ | ⟨q1, q2⟩
        · exact .inl ⟨ds, ds', q1, by simpa using q2, by simpa using q3⟩
        · exact .inr ⟨q1, by simpa using q2⟩
    cases s0 with
    | own b ds =>
      simp only [lent] at h
      split at h
      · split at h
        · rename_i ds' l' _ r h1
          cases h
          exact step h1 (.inl ⟨_, _, rfl, rfl, rfl⟩)
        · cases h
      · cases h
    | none =>
      simp only [lent] at h
      split at h
      · split at h
        · rename_i h1
          cases h
          exact step h1 (.inr ⟨(fun _ _ z => nomatch z), rfl⟩)
        · cases h
      · cases h
    | dat d =>
      simp only [lent] at h
      split at h
      · split at h
        · rename_i h1
          cases h
          exact step h1 (.inr ⟨(fun _ _ z => nomatch z), rfl⟩)
        · cases h
      · cases h
    | scr ns =>
      simp only [lent] at h
      split at h
      · split at h
        · rename_i h1
          cases h
          exact step h1 (.inr ⟨(fun _ _ z => nomatch z), rfl⟩)
        · cases h
      · cases h
/-- a def's end -/
theorem end_post {a l a' : Loc} {r : R} {v : V} {m : Nat} (R : Rel P L0 a σ H) (p : StPost P L0 (a ++ List.replicate m Slot.none) (σ ++ List.replicate m none) H l σ' H') (hl : lent a l = some a') (hr : ∀ i, r ≠ .ref i)
    (rr : RepR P L0 l σ' H' r v) (fr : ∀ ds c, r = .new ds → v = .ref c → H c = none) : EvPost P L0 a σ H a' r v H' := by
  obtain ⟨ll, ls⟩ := lent_spec hl
  have ow := fun c => @pad_own a σ R.len m c
  have keep : ∀ b o, H b = some o → ¬ OwnAt a σ b → H' b = some o := fun b o e n => p.keep b o e fun z => n ((ow b).mp z)
  have kp : ∀ b o, H b = some o → ¬ Lv L0 a σ b → H' b = some o := fun b o e n => keep b o e fun z => n (.inr z)
  -- a lent list's slot
  have sl : ∀ {i : Nat} {ds ds' : List D}, a[i]? = some (.own true ds) → l[i]? = some (.own true ds') → σ'[i]? = σ[i]? := fun {i ds ds'} e e' => by
    have hi := lt_of_get e
    obtain ⟨ds2, e2, e3⟩ := p.pin i ds (by rw [List.getElem?_append_left hi]; exact e)
    rw [e3, List.getElem?_append_left (by have := R.len; omega)]
  have at' : ∀ {i : Nat} {s : Slot}, a'[i]? = some s → (∃ ds ds', a[i]? = some (.own true ds) ∧ l[i]? = some (.own true ds') ∧ s = .own true ds') ∨ ((∀ b ds, s ≠ .own b ds) ∧ a[i]? = some s) := fun {i s} e => by
    have hi : i < a.length := by have := lt_of_get e; omega
    have ea := List.getElem?_eq_getElem hi
    rcases ls i _ ea with ⟨ds, ds', q1, q2, q3⟩ | ⟨q1, q2⟩
    · rw [e] at q3; cases q3
      exact .inl ⟨ds, ds', by rw [ea, q1], q2, rfl⟩
    · rw [e] at q2; cases q2
      exact .inr ⟨q1, ea⟩
  have own1 : ∀ b, OwnAt a' σ b → OwnAt a σ b := fun b ⟨i, b', ds, e1, e2⟩ => by
    rcases at' e1 with ⟨ds1, ds', q1, q2, q3⟩ | ⟨q1, q2⟩
    · exact ⟨i, true, ds1, q1, e2⟩
    · exact absurd rfl (q1 b' ds)
  have own2 : ∀ b, OwnAt a' σ b → OwnAt l σ' b := fun b ⟨i, b', ds, e1, e2⟩ => by
    rcases at' e1 with ⟨ds1, ds', q1, q2, q3⟩ | ⟨q1, q2⟩
    · exact ⟨i, true, ds', q2, by rw [sl q1 q2]; exact e2⟩
    · exact absurd rfl (q1 b' ds)
  have main : ∀ E : Addr → Prop, (∀ c, E c → H c = none ∧ ∃ o, H' c = some o) → Rel P (fun c => L0 c ∨ E c) l σ' H' → Rel P (fun c => L0 c ∨ E c) a' σ H' := fun E hE R' => by
    have lE : ∀ c, Lv (fun c => L0 c ∨ E c) a' σ c → Lv L0 a σ c ∨ H c = none := fun c z => by
      rcases z with (z | z) | z
      · exact .inl (.inl z)
      · exact .inr (hE c z).1
      · exact .inl (.inr (own1 c z))
    have gE : ∀ c, Lv (fun c => L0 c ∨ E c) a' σ c → Lv (fun c => L0 c ∨ E c) l σ' c := fun c z => z.imp id (own2 c)
    refine ⟨by rw [ll]; exact R.len, R'.l0, fun i d e => ?_, fun i b ds e => ?_, fun i j b c ds es w e1 e2 e3 e4 => ?_, fun i ns e => ?_⟩
    · rcases at' e with ⟨ds1, ds', q1, q2, q3⟩ | ⟨q1, q2⟩
      · cases q3
      · obtain ⟨v, e1, r⟩ := R.dat i d q2
        exact ⟨v, e1, Rep.keep kp lE d v r⟩
    · rcases at' e with ⟨ds1, ds', q1, q2, q3⟩ | ⟨q1, q2⟩
      · cases q3
        obtain ⟨c, ws, u1, u2, u3, u4⟩ := R'.own _ _ _ q2
        exact ⟨c, ws, by rw [← sl q1 q2]; exact u1, u2, u3, Reps.weak gE u4⟩
      · exact absurd rfl (q1 b ds)
    · rcases at' e1 with ⟨ds1, ds', q1, q2, q3⟩ | ⟨q1, q2⟩
      · rcases at' e2 with ⟨ds2, ds2', p1, p2, p3⟩ | ⟨p1, p2⟩
        · exact R.inj _ _ _ _ _ _ _ q1 p1 e3 e4
        · exact absurd rfl (p1 _ _)
      · exact absurd rfl (q1 _ _)
    · rcases at' e with ⟨ds1, ds', q1, q2, q3⟩ | ⟨q1, q2⟩
      · cases q3
      · obtain ⟨c, e1, h1⟩ := R.scr i ns q2
        exact ⟨c, e1, h1.keep kp lE⟩
  have fE : ∀ {l1 : Loc} {s1 : Sg} {h1 : Hp}, Rel P (fun c => L0 c ∨ False) l1 s1 h1 ↔ Rel P L0 l1 s1 h1 := fun {l1 s1 h1} => by
    have : (fun c => L0 c ∨ False) = L0 := by funext c; simp
    rw [this]
  have ge : ∀ c, Lv L0 a' σ c → Lv L0 l σ' c := fun c z => z.imp id (own2 c)
  refine ⟨fE.mp (main (fun _ => False) (fun _ z => z.elim) (fE.mpr p.rel)), keep, own1, ?_, p.there, fr, fun i ds e => ?_, fun i s e n => ?_⟩
  · cases r with
    | val d => exact Rep.weak ge rr
    | ref i => exact absurd rfl (hr i)
    | new ds =>
      obtain ⟨c, ws, rfl, q1, q2, q3, q4⟩ := rr
      have hf := fr ds c rfl rfl
      refine ⟨c, ws, rfl, q1, fun z => q2 (ge c z), Reps.weak (fun b z => z.imp (ge b) id) q3, main (fun b => b = c) (fun b z => ?_) q4⟩
      subst z; exact ⟨hf, _, q1⟩
  · rcases ls i _ e with ⟨ds1, ds', q1, q2, q3⟩ | ⟨q1, q2⟩
    · exact ⟨ds', q3⟩
    · exact absurd rfl (q1 _ _)
  · rcases ls i _ e with ⟨ds1, ds', q1, q2, q3⟩ | ⟨q1, q2⟩
    · exact absurd q1 (n _ _)
    · exact q2
end

/-! ### a table of defs -/
structure Ent where
  name : Str
  qual : Str
  st : Stmt
  N : List Str
  ps : List Str
  d : FD
/-- what is the same for all defs -/
structure Tab where
  bl : List Str
  gl : List (Str × Nat)
  fn : List (Str × Nat)
  kw : List KwSh
def Tab.ck (t : Tab) (N : List Str) : CK := ⟨N, t.bl, t.gl, t.fn, t.kw⟩
/-- the look at an entry -/
def Ent.ok (n : Nat) (t : Tab) (e : Ent) : Bool :=
  mSs n (t.ck e.N) (fun _ => true) (defScope e.st) (defBody e.st) e.d.body && decide (e.d.arity = e.ps.length) && decide (e.d.slots = e.N.length)
section
variable {Pr : Program} {w : World} {K : PySem.W.Frag} {mg : Str → Option Value} {base : Heap} {P : RP} {G : Nat → D}
/-- what is known of the defs at a level -/
structure TabOk (Pr : Program) (w : World) (K : PySem.W.Frag) (mg : Str → Option Value) (base : Heap) (P : RP) (G : Nat → D) (t : Tab) (C : CallS) (kk : Nat) : Prop where
  hK : P.K = K
  bl : ∀ x ∈ t.bl, mg x = none
  gl : ∀ p ∈ t.gl, ∃ u v, mg p.1 = some u ∧ RelV v u ∧ ∀ L H, Rep P L H (G p.2) v
  fn : ∀ p ∈ t.fn, ∃ f fd ps, FnOk Pr w K mg base CX0 kk f fd ps (spOf P (C p.2) ps.length) ∧ mg p.1 = some (.ref f) ∧ PySem.W.keepIn K (.ref f) = true ∧ Binds K fd ps [] ∧ ∀ a r a', C p.2 a = some (r, a') → a.length = ps.length
  kw : ∀ q ∈ t.kw, ∃ f fd ps g gV, FnOk Pr w K mg base CX0 kk f fd ps (spOf P (C q.f) ps.length) ∧ mg q.x = some (.ref f) ∧ PySem.W.keepIn K (.ref f) = true ∧ KBinds K fd ps q.ks g gV ∧
    (∀ vs zs : List V, vs.length = q.np → zs.length = q.ks.length → gV vs zs = permV q.perm (vs ++ zs)) ∧ ∀ a r a', C q.f a = some (r, a') → a.length = ps.length
  hC : ∀ j a r a', C j a = some (r, a') → ∀ i, r ≠ .ref i
theorem fn_ok {t : Tab} {C : CallS} {kk n F : Nat} {e : Ent} {dvs : List V} {kws : List (Str × V)} {f : Addr} {fd : FuncData} (T : TabOk Pr w K mg base P G t C kk) (Fn : FunD K e.name e.qual (defArgs e.st) (defBody e.st) (defScope e.st) dvs kws f fd) (Sc : FnScope e.N e.ps (defScope e.st)) (h : e.ok n t = true) :
    FnOk Pr w K mg base CX0 (kk + 1) f fd e.ps (spOf P (runFD G C F e.d) e.ps.length) := by
  unfold Ent.ok at h
  simp only [Bool.and_eq_true, decide_eq_true_eq] at h
  obtain ⟨⟨h1, h2⟩, h3⟩ := h
  refine Fn.ok Sc (fun vs H Q E q => q.1) (fun cdv A outer s H vs Q E hr q => ?_)
  have hx : Ctx P G C (t.ck e.N) (fun _ => true) (defScope e.st) kk (cxOf CX0 Pr w K mg base e.N e.qual (defScope e.st) f cdv A outer s H E).nox :=
    ⟨rfl, Sc.nd, rfl, Sc.kind, T.hK, rfl, rfl, hr, T.bl, T.gl, T.fn, T.kw, T.hC, fun _ _ => rfl⟩
  refine ⟨_, PSs.nox ((snds_all (F := F) n).Ss hx h1), ?_⟩
  obtain ⟨hl, L0, a, r, a', R, eg, hr', k⟩ := q
  unfold runFD at eg
  have la : a.length = e.d.arity := by have := R.len; rw [List.length_map] at this; omega
  rw [if_pos la] at eg
  have hs : L2.start e.N vs = vs.map some ++ List.replicate (e.d.slots - e.d.arity) none := by
    unfold L2.start
    rw [h3, h2, hl]
  rw [hs]
  have Rp := R.pad (e.d.slots - e.d.arity)
  split at eg
  · rename_i r0 l e1
    split at eg
    · rename_i a0 e2
      cases eg
      exact ⟨L0, _, _, Rp, e1, hr', fun v σ' H' p rr fr => k v H' (end_post R p e2 hr' rr fr)⟩
    · cases eg
  · rename_i l e1
    split at eg
    · rename_i a0 e2
      cases eg
      exact ⟨L0, _, _, Rp, e1, fun σ' H' p => k .non H' (end_post R p e2 hr' repR_non (fun _ _ z => nomatch z))⟩
    · cases eg
  · cases eg
/-! the whole table -/
theorem callN_ref {T : List FD} {F : Nat} : ∀ (n j : Nat) (a : Loc) (r : R) (a' : Loc), (∀ (d : FD) (l : Loc) (out : Out) (C : CallS), True) → callN G T F n j a = some (r, a') → True := fun _ _ _ _ _ _ _ => trivial
theorem runFD_ar {C : CallS} {F : Nat} {d : FD} {a : Loc} {r : R} {a' : Loc} (h : runFD G C F d a = some (r, a')) : a.length = d.arity := by
  unfold runFD at h
  split at h
  · assumption
  · cases h
def noRef : Out → Prop
  | .rt (.ref _) _ => False
  | _ => True
theorem nr_for {p : Pat} {body : Loc → Option Out} (hb : ∀ l o, body l = some o → noRef o) : ∀ (ds : List D) (l : Loc) (o : Out), forRun p body ds l = some o → noRef o
  | [], l, o, h => by simp only [forRun, Option.some.injEq] at h; subst h; trivial
  | d :: ds, l, o, h => by
    simp only [forRun] at h
    split at h
    · cases h
    · split at h
      · exact nr_for hb ds _ _ h
      · exact nr_for hb ds _ _ h
      · cases h; trivial
      · rename_i e1
        cases h
        exact hb _ _ e1
      · cases h
theorem nr_wh {c : Loc → Option (Bool × Loc)} {body : Loc → Option Out} (hb : ∀ l o, body l = some o → noRef o) : ∀ (n : Nat) (l : Loc) (o : Out), whRun c body n l = some o → noRef o
  | 0, l, o, h => by simp only [whRun] at h; cases h
  | n + 1, l, o, h => by
    simp only [whRun] at h
    split at h
    · split at h
      · exact nr_wh hb n _ _ h
      · exact nr_wh hb n _ _ h
      · cases h; trivial
      · rename_i e1
        cases h
        exact hb _ _ e1
      · cases h
    · cases h; trivial
    · cases h
mutual
theorem nr_sx {C : CallS} {F : Nat} : ∀ (m : MS) (l : Loc) (o : Out), sx G C F m l = some o → noRef o
  | .set p e, l, o, h => by
    simp only [sx] at h
    split at h
    · split at h
      · obtain ⟨l', _, rfl⟩ := omap_nx h; trivial
      · cases h
    · cases h
  | .own i e, l, o, h => by
    simp only [sx] at h
    split at h
    · obtain ⟨l', _, rfl⟩ := omap_nx h; trivial
    · cases h
  | .par i j a b, l, o, h => by
    simp only [sx] at h
    split at h
    · split at h
      · split at h
        · split at h
          · obtain ⟨l', _, rfl⟩ := omap_nx h; trivial
          · cases h
        · cases h
      · cases h
    · cases h
  | .aug i op e, l, o, h => by
    simp only [sx] at h
    split at h
    · split at h
      · split at h
        · split at h
          · obtain ⟨l', _, rfl⟩ := omap_nx h; trivial
          · obtain ⟨l', _, rfl⟩ := omap_nx h; trivial
          · cases h
        · cases h
      · cases h
    · cases h
  | .ex e, l, o, h => by
    simp only [sx] at h
    split at h
    · cases h; trivial
    · cases h
  | .ret e, l, o, h => by
    simp only [sx] at h
    split at h
    · split at h
      · cases h
      · rename_i hn
        simp only [Option.some.injEq] at h
        subst h
        unfold noRef
        split
        · rename_i i l' heq
          cases heq
          exact absurd rfl (hn i)
        · trivial
    · cases h
  | .retN, l, o, h => by simp only [sx, Option.some.injEq] at h; subst h; trivial
  | .ite c t f, l, o, h => by
    simp only [sx] at h
    split at h
    · exact nr_sxs t _ _ h
    · exact nr_sxs f _ _ h
    · cases h
  | .loop p it b, l, o, h => by
    simp only [sx] at h
    split at h
    · exact nr_for (fun l o e => nr_sxs b l o e) _ _ _ h
    · cases h
  | .wh c b, l, o, h => by
    simp only [sx] at h
    exact nr_wh (fun l o e => nr_sxs b l o e) _ _ _ h
  | .put i k e, l, o, h => by
    simp only [sx] at h
    split at h
    · split at h
      · split at h
        · split at h
          · split at h
            · cases h; trivial
            · cases h
          · cases h
        · cases h
      · cases h
    · cases h
  | .pass, l, o, h => by simp only [sx, Option.some.injEq] at h; subst h; trivial
  | .brk, l, o, h => by simp only [sx, Option.some.injEq] at h; subst h; trivial
  | .cont, l, o, h => by simp only [sx, Option.some.injEq] at h; subst h; trivial
theorem nr_sxs {C : CallS} {F : Nat} : ∀ (ms : List MS) (l : Loc) (o : Out), sxs G C F ms l = some o → noRef o
  | [], l, o, h => by simp only [sxs, Option.some.injEq] at h; subst h; trivial
  | m :: ms, l, o, h => by
    simp only [sxs] at h
    split at h
    · exact nr_sxs ms _ _ h
    · exact nr_sx m _ _ h
end
theorem runFD_nr {C : CallS} {F : Nat} {d : FD} {a : Loc} {r : R} {a' : Loc} (h : runFD G C F d a = some (r, a')) : ∀ i, r ≠ .ref i := by
  unfold runFD at h
  split at h
  · split at h
    · rename_i r0 l e1
      split at h
      · cases h
        have := nr_sxs _ _ _ e1
        intro i e
        subst e
        exact this
      · cases h
    · split at h
      · cases h; intro i e; cases e
      · cases h
    · cases h
  · cases h
theorem callN_nr {T : List FD} {F : Nat} : ∀ (n j : Nat) (a : Loc) (r : R) (a' : Loc), callN G T F n j a = some (r, a') → ∀ i, r ≠ .ref i
  | 0, j, a, r, a', h => by simp only [callN] at h; cases h
  | n + 1, j, a, r, a', h => by
    simp only [callN] at h
    split at h
    · exact runFD_nr h
    · cases h
theorem callN_ar {T : List FD} {F : Nat} {d : FD} {j : Nat} (hd : T[j]? = some d) : ∀ (n : Nat) (a : Loc) (r : R) (a' : Loc), callN G T F n j a = some (r, a') → a.length = d.arity
  | 0, a, r, a', h => by simp only [callN] at h; cases h
  | n + 1, a, r, a', h => by
    simp only [callN] at h
    rw [hd] at h
    exact runFD_ar h
/-- how a def is called with keywords, at its place in the table -/
structure KwOk (K : PySem.W.Frag) (fd : FuncData) (ps : List Str) (q : KwSh) : Prop where
  ex : ∃ g gV, KBinds K fd ps q.ks g gV ∧ ∀ vs zs : List V, vs.length = q.np → zs.length = q.ks.length → gV vs zs = permV q.perm (vs ++ zs)
/-- the facts of a table -/
structure Facts (K : PySem.W.Frag) (mg : Str → Option Value) (P : RP) (G : Nat → D) (t : Tab) (es : List Ent) : Prop where
  hK : P.K = K
  bl : ∀ x ∈ t.bl, mg x = none
  gl : ∀ p ∈ t.gl, ∃ u v, mg p.1 = some u ∧ RelV v u ∧ ∀ L H, Rep P L H (G p.2) v
  at_ : ∀ (j : Nat) (e : Ent), es[j]? = some e → ∃ dvs kws f fd, FunD K e.name e.qual (defArgs e.st) (defBody e.st) (defScope e.st) dvs kws f fd ∧ FnScope e.N e.ps (defScope e.st) ∧ mg e.name = some (.ref f) ∧ ((∃ p ∈ t.fn, p.2 = j) → Binds K fd e.ps []) ∧ ∀ q ∈ t.kw, q.f = j → KwOk K fd e.ps q
  fn : ∀ p ∈ t.fn, ∃ e, es[p.2]? = some e ∧ e.name = p.1
  kw : ∀ q ∈ t.kw, ∃ e, es[q.f]? = some e ∧ e.name = q.x
theorem tab_ok {t : Tab} {es : List Ent} {n F : Nat} (X : Facts K mg P G t es) (hok : es.all (·.ok n t) = true) : ∀ kk, TabOk Pr w K mg base P G t (callN G (es.map (·.d)) F kk) kk ∧
    ∀ (j : Nat) (e : Ent) (dvs : List V) (kws : List (Str × V)) (f : Addr) (fd : FuncData), es[j]? = some e → FunD K e.name e.qual (defArgs e.st) (defBody e.st) (defScope e.st) dvs kws f fd → FnScope e.N e.ps (defScope e.st) → FnOk Pr w K mg base CX0 kk f fd e.ps (spOf P (callN G (es.map (·.d)) F kk j) e.ps.length) := by
  have eok : ∀ {j : Nat} {e : Ent}, es[j]? = some e → e.ok n t = true := fun {j e} h => by
    rw [List.all_eq_true] at hok
    exact hok e (List.mem_of_getElem? h)
  have ear : ∀ {j : Nat} {e : Ent}, es[j]? = some e → e.d.arity = e.ps.length := fun {j e} h => by
    have := eok h
    unfold Ent.ok at this
    simp only [Bool.and_eq_true, decide_eq_true_eq] at this
    exact this.1.2
  have edj : ∀ {j : Nat} {e : Ent}, es[j]? = some e → (es.map (·.d))[j]? = some e.d := fun {j e} h => by
    rw [List.getElem?_map, h]; rfl
  -- from the defs at a level to the table at it
  have up : ∀ kk, (∀ (j : Nat) (e : Ent) (dvs : List V) (kws : List (Str × V)) (f : Addr) (fd : FuncData), es[j]? = some e → FunD K e.name e.qual (defArgs e.st) (defBody e.st) (defScope e.st) dvs kws f fd → FnScope e.N e.ps (defScope e.st) → FnOk Pr w K mg base CX0 kk f fd e.ps (spOf P (callN G (es.map (·.d)) F kk j) e.ps.length)) →
      TabOk Pr w K mg base P G t (callN G (es.map (·.d)) F kk) kk := fun kk hF => by
    refine ⟨X.hK, X.bl, X.gl, fun p hp => ?_, fun q hq => ?_, callN_nr kk⟩
    · obtain ⟨e, h1, h2⟩ := X.fn p hp
      obtain ⟨dvs, kws, f, fd, g1, g2, g3, g4, _⟩ := X.at_ _ _ h1
      exact ⟨f, fd, e.ps, hF _ _ _ _ _ _ h1 g1 g2, by rw [← h2]; exact g3, g1.kp, g4 ⟨p, hp, rfl⟩, fun a r a' h => by rw [callN_ar (edj h1) kk a r a' h, ear h1]⟩
    · obtain ⟨e, h1, h2⟩ := X.kw q hq
      obtain ⟨dvs, kws, f, fd, g1, g2, g3, g4, g5⟩ := X.at_ _ _ h1
      obtain ⟨g, gV, k1, k2⟩ := (g5 q hq rfl).ex
      exact ⟨f, fd, e.ps, g, gV, hF _ _ _ _ _ _ h1 g1 g2, by rw [← h2]; exact g3, g1.kp, k1, k2, fun a r a' h => by rw [callN_ar (edj h1) kk a r a' h, ear h1]⟩
  intro kk
  induction kk with
  | zero =>
    have h0 : ∀ (j : Nat) (e : Ent) (dvs : List V) (kws : List (Str × V)) (f : Addr) (fd : FuncData), es[j]? = some e → FunD K e.name e.qual (defArgs e.st) (defBody e.st) (defScope e.st) dvs kws f fd → FnScope e.N e.ps (defScope e.st) → FnOk Pr w K mg base CX0 0 f fd e.ps (spOf P (callN G (es.map (·.d)) F 0 j) e.ps.length) := fun j e dvs kws f fd _ _ _ =>
      ⟨fun vs H Q E h => h.1, fun A outer s H args us vs Q E _ _ _ _ h => by
        obtain ⟨_, L0, a, r, a', _, e, _⟩ := h
        cases e⟩
    exact ⟨up 0 h0, h0⟩
  | succ kk ih =>
    have h1 : ∀ (j : Nat) (e : Ent) (dvs : List V) (kws : List (Str × V)) (f : Addr) (fd : FuncData), es[j]? = some e → FunD K e.name e.qual (defArgs e.st) (defBody e.st) (defScope e.st) dvs kws f fd → FnScope e.N e.ps (defScope e.st) → FnOk Pr w K mg base CX0 (kk + 1) f fd e.ps (spOf P (callN G (es.map (·.d)) F (kk + 1) j) e.ps.length) := fun j e dvs kws f fd hj hf hs => by
      have := fn_ok (F := F) ih.1 hf hs (eok hj)
      have e1 : callN G (es.map (·.d)) F (kk + 1) j = runFD G (callN G (es.map (·.d)) F kk) F e.d := by
        funext a
        simp only [callN]
        rw [edj hj]
      rw [e1]
      exact this
    exact ⟨up _ h1, h1⟩
/-- the law's promise -/
theorem law_sp {C : CallS} {a : Addr} {H : Hp} {ns : List Int} {a' : Loc} {E : XK} {j : Nat} (hK : P.K = K) (hS : SqL K H a (ns.map V.int)) (h : C j [.scr ns] = some (.val (.bl true), a')) : spOf P (C j) 1 [.ref a] H (fun v _ => v = .bl true) E := by
  refine ⟨rfl, fun _ => False, [.scr ns], _, a', ⟨rfl, fun _ z => z.elim, fun i d e => ?_, fun i b ds e => ?_, fun i j b c ds es w e1 => ?_, fun i n e => ?_⟩, h, (fun i z => nomatch z), fun v H' p => ?_⟩
  · cases i <;> simp at e
  · cases i <;> simp at e
  · cases i <;> simp at e1
  · cases i with
    | zero =>
      simp at e; subst e
      refine ⟨a, rfl, ?_⟩
      rcases hS with hS | hS
      · refine .inl ⟨hS, fun z => ?_⟩
        rcases z with z | ⟨i, b, ds, e1, e2⟩
        · exact z
        · cases i <;> simp at e1
      · exact .inr (.inr (hK ▸ hS))
    | succ i => simp at e
  · have : Rep P (Lv (fun _ => False) a' [some (.ref a)]) H' (.bl true) v := p.rep
    unfold Rep at this; exact this
end
end MP

namespace MP
open PySem PySem.Spec PyProof.Rows L2
/-! ### calls with keywords: how they bind -/
def permA {α : Type} (p : List Nat) (l : List α) : List α := p.filterMap fun i => l[i]?
theorem permV_eq (p : List Nat) (l : List V) : permV p l = permA p l := rfl
theorem vals_perm {xs : List V} {us : List Value} (r : Vals xs us) : ∀ p : List Nat, Vals (permA p xs) (permA p us)
  | [] => .nil
  | i :: p => by
    have ih := vals_perm r p
    unfold permA at ih ⊢
    rw [List.filterMap_cons, List.filterMap_cons]
    cases e : xs[i]? with
    | none =>
      have : us[i]? = none := by
        rw [List.getElem?_eq_none_iff] at e ⊢
        have := r.length
        omega
      rw [this]
      exact ih
    | some x =>
      obtain ⟨u, e1, e2⟩ := r.get e
      rw [e1]
      exact .cons e2 ih
theorem kw_ok {K : PySem.W.Frag} {x qual : Str} {params : Arguments} {body : List Stmt} {scope : Scope} {f : Addr} {fd : FuncData} {ps : List Str} {q : KwSh} (F : FunD K x qual params body scope [] [] f fd) (hp : (ps.length == 0) = false)
    (h : ∀ (kV doc pm : Value) (an : Option Addr) (cdv ct : Value) (us ws : List Value), us.length = q.np → ws.length = q.ks.length → bindArgs (PySem.W.fnOf x qual params body scope .none kV doc pm an cdv ct) ⟨us, q.ks.zip ws⟩ = pure (ps.zip (permA q.perm (us ++ ws)))) : KwOk K fd ps q := by
  obtain ⟨oc, od, dV, kV, doc, pm, an, cdv, ct, osl, rfl, lk, hcd, hD, hK⟩ := F.ex
  rcases hD with ⟨_, rfl⟩ | ⟨e, _⟩
  case inr => exact absurd rfl e
  refine ⟨fun us ws => if us.length = q.np ∧ ws.length = q.ks.length then permA q.perm (us ++ ws) else [], fun vs zs => if vs.length = q.np ∧ zs.length = q.ks.length then permA q.perm (vs ++ zs) else [], ⟨fun s us ws _ hl => ?_, fun {vs us zs ws} r1 r2 => ?_⟩, fun vs zs h1 h2 => (if_pos ⟨h1, h2⟩).trans (permV_eq _ _).symm⟩
  · by_cases c : us.length = q.np ∧ ws.length = q.ks.length
    · show BindsTo _ _ _ (ps.zip (if us.length = q.np ∧ ws.length = q.ks.length then permA q.perm (us ++ ws) else []))
      rw [if_pos c]
      exact .of_eq (h kV doc pm an cdv ct us ws c.1 c.2)
    · replace hl : (if us.length = q.np ∧ ws.length = q.ks.length then permA q.perm (us ++ ws) else []).length = ps.length := hl
      rw [if_neg c] at hl
      have : ps.length = 0 := hl.symm
      rw [this] at hp
      cases hp
  · by_cases c : vs.length = q.np ∧ zs.length = q.ks.length
    · show Vals (if vs.length = q.np ∧ zs.length = q.ks.length then permA q.perm (vs ++ zs) else []) (if us.length = q.np ∧ ws.length = q.ks.length then permA q.perm (us ++ ws) else [])
      rw [if_pos c, if_pos ⟨by rw [← r1.length]; exact c.1, by rw [← r2.length]; exact c.2⟩]
      exact vals_perm (r1.append r2) _
    · show Vals (if vs.length = q.np ∧ zs.length = q.ks.length then permA q.perm (vs ++ zs) else []) (if us.length = q.np ∧ ws.length = q.ks.length then permA q.perm (us ++ ws) else [])
      rw [if_neg c, if_neg (fun z => c ⟨by rw [r1.length]; exact z.1, by rw [r2.length]; exact z.2⟩)]
      exact .nil
/-! ### the facts of a table from the head -/
def Ent.dd (e : Ent) : He.DefD := ⟨(e.name, none), e.name, e.qual, defArgs e.st, defBody e.st, defScope e.st, [], []⟩
/-- one entry's own: scope, binding, keyword calls -/
structure EntOk (t : Tab) (j : Nat) (e : Ent) : Prop where
  sc : FnScope e.N e.ps (defScope e.st)
  bd : (∃ p ∈ t.fn, p.2 = j) → ∀ {K : PySem.W.Frag} {f : Addr} {fd : FuncData}, FunD K e.name e.qual (defArgs e.st) (defBody e.st) (defScope e.st) [] [] f fd → Binds K fd e.ps []
  kw : ∀ {K : PySem.W.Frag} {f : Addr} {fd : FuncData}, FunD K e.name e.qual (defArgs e.st) (defBody e.st) (defScope e.st) [] [] f fd → ∀ q ∈ t.kw, q.f = j → KwOk K fd e.ps q
def allEnt (t : Tab) : Nat → List Ent → Prop
  | _, [] => True
  | j, e :: es => EntOk t j e ∧ allEnt t (j + 1) es
theorem allEnt.get {t : Tab} : ∀ {es : List Ent} {j i : Nat} {e : Ent}, allEnt t j es → es[i]? = some e → EntOk t (j + i) e
  | [], _, _, _, _, h => by simp at h
  | e0 :: es, j, 0, e, h, q => by simp at q; subst q; exact h.1
  | e0 :: es, j, i + 1, e, h, q => by
    have := allEnt.get h.2 (i := i) (e := e) (by simpa using q)
    rw [show j + (i + 1) = j + 1 + i by omega]
    exact this
theorem facts_of {K : PySem.W.Frag} {h : Heap} {mg : Str → Option Value} {t : Tab} {es : List Ent} {fa : List He.Fa} {ca : Addr → Str → Option Addr} {P : RP} {G : Nat → D} (X : K.In h) (N : h.Ns mainGlobals mg) (c : He.SaysD fa (es.map Ent.dd) K) (ok : allEnt t 0 es)
    (hP : P.K = K)
    (hfa : (es.all fun e => fa.any fun f => match f with | .glo x => decide (x = e.name) | _ => false) = true)
    (hbl : (t.bl.all fun b => fa.any fun f => match f with | .free x => decide (x = b) | _ => false) = true)
    (hgl : ∀ p ∈ t.gl, ∃ u v, mg p.1 = some u ∧ RelV v u ∧ ∀ L H, Rep P L H (G p.2) v)
    (hfn : (t.fn.all fun p => match es[p.2]? with | some e => decide (e.name = p.1) | none => false) = true)
    (hkw : (t.kw.all fun q => match es[q.f]? with | some e => decide (e.name = q.x) | none => false) = true) : Facts K mg P G t es := by
  have getfa : ∀ {f : He.Fa}, f ∈ fa → f.ok K = true := fun {f} hm => by
    obtain ⟨i, hi⟩ := List.getElem?_of_mem hm
    exact c.fact i hi
  refine ⟨hP, fun x hx => ?_, hgl, fun j e he => ?_, fun p hp => ?_, fun q hq => ?_⟩
  · have h1 := List.all_eq_true.mp hbl x hx
    obtain ⟨f, hm, h2⟩ := List.any_eq_true.mp h1
    cases f <;> first | (cases h2; done) | skip
    rename_i y
    have h3 : y = x := of_decide_eq_true h2
    subst h3
    exact He.free_ok X N (getfa hm)
  · obtain ⟨fd, F⟩ := c.def_ j (d := e.dd) (by rw [List.getElem?_map, he]; rfl)
    have E := ok.get he
    rw [Nat.zero_add] at E
    have h1 := List.all_eq_true.mp hfa e (List.mem_of_getElem? he)
    obtain ⟨f, hm, h2⟩ := List.any_eq_true.mp h1
    cases f <;> first | (cases h2; done) | skip
    rename_i y
    have h3 : y = e.name := of_decide_eq_true h2
    subst h3
    exact ⟨_, _, _, fd, F, E.sc, He.glo_ok X N (getfa hm), fun z => E.bd z F, E.kw F⟩
  · have h1 := List.all_eq_true.mp hfn p hp
    cases e : es[p.2]? with
    | none => simp only [e] at h1; cases h1
    | some e' => simp only [e] at h1; exact ⟨e', rfl, of_decide_eq_true h1⟩
  · have h1 := List.all_eq_true.mp hkw q hq
    cases e : es[q.f]? with
    | none => simp only [e] at h1; cases h1
    | some e' => simp only [e] at h1; exact ⟨e', rfl, of_decide_eq_true h1⟩
/-- from the facts to what a law's walk wants -/
theorem law_end {Pr : Program} {w : World} {K : PySem.W.Frag} {mg : Str → Option Value} {P : RP} {G : Nat → D} {t : Tab} {es : List Ent} {n F kk j : Nat} {e : Ent} {h : Heap} {fa : Addr} (KX : K.In h) (X : Facts K mg P G t es) (hok : es.all (·.ok n t) = true) (hj : es[j]? = some e) (hmg : mg e.name = some (.ref fa)) {x : Str} (hps : e.ps = [x])
    (hb : ∀ {K : PySem.W.Frag} {f : Addr} {fd : FuncData}, FunD K e.name e.qual (defArgs e.st) (defBody e.st) (defScope e.st) [] [] f fd → ∀ (s : Shared) (u : Value), BindsTo s fd ⟨[u], []⟩ [(x, u)])
    (hd : ∃ fd, FunD K e.name e.qual (defArgs e.st) (defBody e.st) (defScope e.st) [] [] fa fd)
    (hsc : FnScope e.N e.ps (defScope e.st))
    (law : ∀ ns : List Int, ns.length ≤ 63 → ∃ a', callN G (es.map (·.d)) F kk j [.scr ns] = some (.val (.bl true), a')) :
    ∃ (K : PySem.W.Frag) (fd : FuncData) (sp : Sp), K.In h ∧ (∀ (s : Shared) (u : Value), BindsTo s fd ⟨[u], []⟩ [(x, u)]) ∧
        (∀ (H : Hp) (a : Addr) (ns : List Int), ns.length ≤ 63 → Only H → SqL K H a (ns.map V.int) → sp [.ref a] H (fun v _ => v = .bl true) fun _ _ _ => False) ∧
        ∀ base : Heap, K.In base → base.Ns mainGlobals mg → FnOk Pr w K mg base CX0 kk fa fd [x] sp := by
  obtain ⟨fd, Fd⟩ := hd
  refine ⟨K, fd, spOf P (callN G (es.map (·.d)) F kk j) 1, KX, hb Fd, fun H a ns hl _ hS => ?_, fun base _ _ => ?_⟩
  · obtain ⟨a', e1⟩ := law ns hl
    exact law_sp X.hK hS e1
  · have := (tab_ok (Pr := Pr) (w := w) (base := base) (F := F) X hok kk).2 j e _ _ fa fd hj Fd hsc
    rw [hps] at this
    exact this
end MP

namespace MP
open PySem L2

/-! ### plain tools: calls, loops, comprehensions -/
section
variable {G : Nat → D}
theorem lent_dat : ∀ {ds : List D} {l a' : Loc}, lent (ds.map Slot.dat) l = some a' → a' = ds.map Slot.dat
  | [], l, a', h => by simp only [List.map_nil, lent, Option.some.injEq] at h; exact h.symm
  | d :: ds, l, a', h => by
    simp only [List.map_cons, lent] at h
    split at h
    · split at h
      · rename_i l' r h1
        cases h
        rw [lent_dat h1]; rfl
      · cases h
    · cases h
theorem runFD_dat {C : CallS} {F : Nat} {d : FD} {ds : List D} {r : R} {a' : Loc} (h : runFD G C F d (ds.map Slot.dat) = some (r, a')) : a' = ds.map Slot.dat := by
  unfold runFD at h
  split at h
  · split at h
    · split at h
      · rename_i h1
        cases h
        exact lent_dat h1
      · cases h
    · split at h
      · rename_i h1
        cases h
        exact lent_dat h1
      · cases h
    · cases h
  · cases h
theorem callN_dat {T : List FD} {F : Nat} {n j : Nat} {ds : List D} {r : R} {a' : Loc} (h : callN G T F n j (ds.map Slot.dat) = some (r, a')) : a' = ds.map Slot.dat := by
  cases n with
  | zero => simp only [callN] at h; cases h
  | succ n =>
    simp only [callN] at h
    split at h
    · exact runFD_dat h
    · cases h
/-- a call whose arguments are all plain -/
theorem args_dat : ∀ (ds : List D) (loc : Loc), argsOf loc (ds.map R.val) = some (ds.map Slot.dat)
  | [], _ => rfl
  | d :: ds, loc => by
    simp only [List.map_cons, argsOf, argOf]
    rw [args_dat ds loc]
theorem refs_dat : ∀ ds : List D, refs (ds.map R.val) = []
  | [] => rfl
  | d :: ds => by simp only [List.map_cons, refs]; exact refs_dat ds
theorem given_dat : ∀ (ds : List D) (loc : Loc), given (ds.map R.val) (ds.map Slot.dat) loc = some loc
  | [], _ => rfl
  | d :: ds, loc => by simp only [List.map_cons, given]; exact given_dat ds loc
theorem doCall_dat {C : CallS} {f : Nat} {ds : List D} {r : R} {loc : Loc} (h : C f (ds.map Slot.dat) = some (r, ds.map Slot.dat)) : doCall C f (ds.map R.val) loc = some (r, loc) := by
  unfold doCall
  rw [refs_dat, args_dat]
  simp only [nodupB, if_true, h, given_dat]
/-- what a def answers to plain arguments -/
def Ans (C : CallS) (f : Nat) (ds : List D) (r : R) : Prop := C f (ds.map Slot.dat) = some (r, ds.map Slot.dat)
theorem Ans.call {C : CallS} {f : Nat} {ds : List D} {r : R} (h : Ans C f ds r) (loc : Loc) : doCall C f (ds.map R.val) loc = some (r, loc) := doCall_dat h
theorem ans_of {T : List FD} {F n j : Nat} {ds : List D} {r : R} {a' : Loc} (h : callN G T F n j (ds.map Slot.dat) = some (r, a')) : Ans (callN G T F n) j ds r := by
  have := callN_dat h
  subst this
  exact h
/-- a loop that keeps something -/
theorem for_inv {p : Pat} {body : Loc → Option Out} {I : Loc → Prop} {M : D → Prop} (hb : ∀ d loc, M d → I loc → ∃ l1 l2, bindP p d loc = some l1 ∧ (body l1 = some (.nx l2) ∨ body l1 = some (.ct l2)) ∧ I l2) : ∀ (ds : List D) (loc : Loc), (∀ d ∈ ds, M d) → I loc → ∃ l2, forRun p body ds loc = some (.nx l2) ∧ I l2
  | [], loc, _, h => ⟨loc, rfl, h⟩
  | d :: ds, loc, hm, h => by
    obtain ⟨l1, l2, e1, e2, e3⟩ := hb d loc (hm d (List.mem_cons_self ..)) h
    obtain ⟨l3, e4, e5⟩ := for_inv hb ds l2 (fun x hx => hm x (List.mem_cons_of_mem _ hx)) e3
    refine ⟨l3, ?_, e5⟩
    simp only [forRun, e1]
    rcases e2 with e2 | e2 <;> rw [e2] <;> exact e4
/-- a comprehension over one name, no test -/
theorem lc_map {own : List Nat} {p : Pat} {elt : Loc → Option (R × Loc)} {w : Loc} {f : D → D} : ∀ (ds : List D), (∀ d ∈ ds, ∃ l1 r l3, bindP p d w = some l1 ∧ elt l1 = some (r, l3) ∧ toVal r = some (f d) ∧ wipeL l3 own = w) →
    lcRun own p (fun l => some (true, l)) elt ds w = some (ds.map f, w)
  | [], _ => rfl
  | d :: ds, h => by
    obtain ⟨l1, r, l3, e1, e2, e3, e4⟩ := h d (List.mem_cons_self ..)
    simp only [lcRun, e1, e2, e3, e4, lc_map ds (fun x hx => h x (List.mem_cons_of_mem _ hx)), List.map_cons]
/-- the same with a test -/
theorem lc_filter {own : List Nat} {p : Pat} {cond : Loc → Option (Bool × Loc)} {elt : Loc → Option (R × Loc)} {w : Loc} {q : D → Bool} {f : D → D} : ∀ (ds : List D), (∀ d ∈ ds, ∃ l1 l2, bindP p d w = some l1 ∧ cond l1 = some (q d, l2) ∧ (q d = false → wipeL l2 own = w) ∧ (q d = true → ∃ r l3, elt l2 = some (r, l3) ∧ toVal r = some (f d) ∧ wipeL l3 own = w)) →
    lcRun own p cond elt ds w = some ((ds.filter q).map f, w)
  | [], _ => rfl
  | d :: ds, h => by
    obtain ⟨l1, l2, e1, e2, e3, e4⟩ := h d (List.mem_cons_self ..)
    have ih := lc_filter ds (fun x hx => h x (List.mem_cons_of_mem _ hx))
    cases hq : q d with
    | true =>
      obtain ⟨r, l3, g1, g2, g3⟩ := e4 hq
      rw [hq] at e2
      simp only [lcRun, e1, e2, g1, g2, g3, ih, List.filter_cons, hq, if_true, List.map_cons]
    | false =>
      rw [hq] at e2
      have g := e3 hq
      simp only [lcRun, e1, e2, g, ih, List.filter_cons, hq, Bool.false_eq_true, if_false]
theorem rngL_eq : ∀ (n : Nat) (lo : Int), rngL lo n = (List.range n).map fun i : Nat => D.int (lo + (i : Int))
  | 0, _ => rfl
  | n + 1, lo => by
    rw [rngL, rngL_eq n, List.range_succ_eq_map, List.map_cons, List.map_map]
    congr 1
    · simp
    · apply List.map_congr_left
      intro i _
      simp only [Function.comp_apply]
      congr 1
      omega
theorem ints_map : ∀ ns : List Int, ints? (ns.map D.int) = some ns
  | [] => rfl
  | n :: ns => by simp only [List.map_cons, ints?, ints_map ns]
end

/-! ### the laws' well -/
def IsWell (m : Nat) (ds : List D) : Prop := ∃ a c t : Int, ds = [.int a, .int c, .int t] ∧ 0 ≤ t ∧ t ≤ m
theorem pow_ok {x : Int} (h0 : 0 ≤ x) (h : x < 2 ^ 60) : powOk x 5 = true := by
  unfold powOk
  simp only [Bool.and_eq_true, decide_eq_true_eq]
  refine ⟨⟨by decide, by decide⟩, ?_⟩
  omega
theorem mul_ok {x y : Int} (h0 : 0 ≤ x) (h : x < 2 ^ 60) : mulOk x y = true := by
  unfold mulOk
  simp only [Bool.or_eq_true, Bool.and_eq_true, decide_eq_true_eq]
  exact .inl (.inl ⟨by omega, by omega⟩)
theorem fdiv_ok {x : Int} (h0 : 0 < x) (h : x < 2 ^ 62) : fdivOk x = true := by
  unfold fdivOk
  simp only [Bool.and_eq_true, decide_eq_true_eq]
  refine ⟨h0, ?_⟩
  have : x.natAbs < 2 ^ 62 := by omega
  by_cases hz : x.natAbs = 0
  · rw [hz]; decide
  · have := (Nat.log2_lt hz).mpr this
    omega
def drawA : FD := ⟨2, 5, [.ite (.o2 .gt (.o2 .ix (.r 0) (.c (.int 0))) (.c (.int 0))) [.set (.v 4) (.o2 .mod (.o2 .ix (.r 0) (.c (.int 0))) (.r 1)), .put 0 (.c (.int 0)) (.o2 .fdiv (.o2 .ix (.r 0) (.c (.int 0))) (.r 1)), .ret (.r 4)] [], .put 0 (.c (.int 2)) (.o2 .add (.o2 .ix (.r 0) (.c (.int 2))) (.c (.int 1))), .set (.v 2) (.o2 .mod (.o2 .fdiv (.o2 .ix (.r 0) (.c (.int 1))) (.c (.int 2147483629))) (.c (.int 65521))), .set (.v 3) (.o2 .mod (.o2 .pow (.o2 .add (.o2 .add (.o2 .add (.o2 .mod (.o2 .ix (.r 0) (.c (.int 1))) (.c (.int 2147483629))) (.o2 .mul (.c (.int 7919)) (.o2 .ix (.r 0) (.c (.int 2))))) (.r 2)) (.c (.int 1))) (.c (.int 5))) (.c (.int 2147483647))), .set (.v 3) (.o2 .mod (.o2 .mul (.r 3) (.o2 .add (.o2 .add (.o2 .fdiv (.r 3) (.c (.int 1009))) (.c (.int 69621))) (.o2 .ix (.r 0) (.c (.int 2))))) (.c (.int 2147483629))), .ret (.o2 .mod (.o2 .mod (.o2 .mul (.r 3) (.o2 .add (.o2 .fdiv (.r 3) (.c (.int 2003))) (.c (.int 40692)))) (.c (.int 2147483399))) (.r 1))]⟩
theorem drawA_ok {G : Nat → D} {C : CallS} {F m : Nat} {ds : List D} {n : Int} (hw : IsWell m ds) (h0 : 0 < n) (h1 : n < 2 ^ 60) (hm : m < 2 ^ 40) :
    ∃ r ds', runFD G C F drawA [.own true ds, .dat (.int n)] = some (.val (.int r), [.own true ds', .dat (.int n)]) ∧ 0 ≤ r ∧ r < n ∧ IsWell (m + 1) ds' := by
  obtain ⟨a, c, t, rfl, t0, t1⟩ := hw
  have hf : fdivOk n = true := fdiv_ok h0 (by omega)
  by_cases ha : 0 < a
  · refine ⟨a % n, [.int (a / n), .int c, .int t], ?_, Int.emod_nonneg _ (by omega), Int.emod_lt_of_pos _ h0, _, _, _, rfl, t0, by omega⟩
    simp [runFD, drawA, sxs, sx, evT, ev, res, sett, ap2, cmpI, seqAt, ha, h0, hf, truth, toVal, bindP, put, free, lent]
  · have e1 : c % 2147483629 < 2147483629 := Int.emod_lt_of_pos _ (by decide)
    have e2 : 0 ≤ c % 2147483629 := Int.emod_nonneg _ (by decide)
    have e3 : c / 2147483629 % 65521 < 65521 := Int.emod_lt_of_pos _ (by decide)
    have e4 : 0 ≤ c / 2147483629 % 65521 := Int.emod_nonneg _ (by decide)
    have p1 : powOk (c % 2147483629 + 7919 * (t + 1) + c / 2147483629 % 65521 + 1) 5 = true := pow_ok (by omega) (by omega)
    generalize hx : (c % 2147483629 + 7919 * (t + 1) + c / 2147483629 % 65521 + 1) ^ (5 : Nat) % 2147483647 = x at *
    have x1 : x < 2147483647 := hx ▸ Int.emod_lt_of_pos _ (by decide)
    have x0 : 0 ≤ x := hx ▸ Int.emod_nonneg _ (by decide)
    have p2 : ∀ y, mulOk x y = true := fun y => mul_ok x0 (by omega)
    generalize hy : x * (x / 1009 + 69621 + (t + 1)) % 2147483629 = y at *
    have y1 : y < 2147483629 := hy ▸ Int.emod_lt_of_pos _ (by decide)
    have y0 : 0 ≤ y := hy ▸ Int.emod_nonneg _ (by decide)
    have p3 : ∀ z, mulOk y z = true := fun z => mul_ok y0 (by omega)
    have p4 : mulOk 7919 (t + 1) = true := mul_ok (by decide) (by decide)
    have f1 : fdivOk 2147483629 = true := by decide
    have f2 : fdivOk 1009 = true := by decide
    have f3 : fdivOk 2003 = true := by decide
    refine ⟨y * (y / 2003 + 40692) % 2147483399 % n, [.int a, .int c, .int (t + 1)], ?_, Int.emod_nonneg _ (by omega), Int.emod_lt_of_pos _ h0, _, _, _, rfl, by omega, by omega⟩
    have e5 : (5 : Int).toNat = 5 := rfl
    simp [runFD, drawA, sxs, sx, evT, ev, res, sett, ap2, cmpI, seqAt, ha, h0, truth, toVal, bindP, put, free, lent, f1, f2, f3, p1, p2, p3, p4, e5, hx, hy]
end MP
namespace MP
/-! ### data that are the same -/
mutual
def D.same : D → D → Bool
  | .non, e => match e with | .non => true | _ => false
  | .bl a, e => match e with | .bl b => a == b | _ => false
  | .int i, e => match e with | .int j => i == j | _ => false
  | .str x, e => match e with | .str y => decide (x = y) | _ => false
  | .tup xs, e => match e with | .tup ys => D.sames xs ys | _ => false
  | .lst xs, e => match e with | .lst ys => D.sames xs ys | _ => false
  | .ins _ _, _ => false
def D.sames : List D → List D → Bool
  | [], e => match e with | [] => true | _ => false
  | x :: xs, e => match e with | y :: ys => D.same x y && D.sames xs ys | [] => false
end
mutual
theorem D.same_eq : ∀ {a b : D}, D.same a b = true → a = b
  | .non, b, h => by cases b <;> first | rfl | (simp [D.same] at h)
  | .bl x, b, h => by cases b <;> first | (simp [D.same] at h; rw [h]) | (simp [D.same] at h)
  | .int x, b, h => by cases b <;> first | (simp [D.same] at h; rw [h]) | (simp [D.same] at h)
  | .str x, b, h => by cases b <;> first | (simp [D.same] at h; rw [h]) | (simp [D.same] at h)
  | .tup xs, b, h => by
    cases b <;> first | (exfalso; simp [D.same] at h; done) | skip
    rw [D.sames_eq (show D.sames xs _ = true from by simpa only [D.same] using h)]
  | .lst xs, b, h => by
    cases b <;> first | (exfalso; simp [D.same] at h; done) | skip
    rw [D.sames_eq (show D.sames xs _ = true from by simpa only [D.same] using h)]
  | .ins _ _, b, h => by simp [D.same] at h
theorem D.sames_eq : ∀ {a b : List D}, D.sames a b = true → a = b
  | [], b, h => by cases b <;> first | rfl | (simp [D.sames] at h)
  | x :: xs, b, h => by
    cases b with
    | nil => simp [D.sames] at h
    | cons y ys =>
      simp only [D.sames, Bool.and_eq_true] at h
      rw [D.same_eq h.1, D.sames_eq h.2]
end
/-- the call gives this value -/
def isV (d : D) : Option (R × Loc) → Bool
  | some (.val e, _) => D.same e d
  | _ => false
theorem isV_ok {d : D} {o : Option (R × Loc)} (h : isV d o = true) : ∃ a', o = some (.val d, a') := by
  unfold isV at h
  split at h
  · exact ⟨_, by rw [D.same_eq h]⟩
  · cases h
theorem ans_isV {G : Nat → D} {T : List FD} {F n j : Nat} {ds : List D} {d : D} (h : isV d (callN G T F n j (ds.map Slot.dat)) = true) : Ans (callN G T F n) j ds (.val d) := by
  obtain ⟨a', e⟩ := isV_ok h
  exact ans_of e
end MP
namespace MP
/-! ### lists of ints -/
theorem plains_int (n : Nat) : ∀ xs : List Int, D.plains n (xs.map D.int) = true
  | [] => by simp [D.plains]
  | x :: xs => by simp [D.plains, D.plain, plains_int n xs]
theorem any_int (c : Int) : ∀ xs : List Int, ((xs.map D.int).any fun y => D.beq y (.int c)) = xs.any (fun y => y == c)
  | [] => rfl
  | x :: xs => by simp only [List.map_cons, List.any_cons, any_int c xs, D.beq]
theorem plain_int (n : Nat) (i : Int) : D.plain n (.int i) = true := by cases n <;> rfl
theorem plain_bl (n : Nat) (i : Bool) : D.plain n (.bl i) = true := by cases n <;> rfl
/-- a loop that may answer -/
theorem for_find {p : Pat} {body : Loc → Option Out} {I J : Loc → Prop} {q : D → Bool} {r : R} : ∀ (ds : List D) (loc : Loc),
    (∀ d ∈ ds, ∀ loc, I loc → ∃ l1, bindP p d loc = some l1 ∧ (q d = true → ∃ l2, body l1 = some (.rt r l2) ∧ J l2) ∧ (q d = false → ∃ l2, body l1 = some (.nx l2) ∧ I l2)) → I loc →
    (ds.any q = true → ∃ l2, forRun p body ds loc = some (.rt r l2) ∧ J l2) ∧ (ds.any q = false → ∃ l2, forRun p body ds loc = some (.nx l2) ∧ I l2)
  | [], loc, _, h => ⟨fun e => by simp at e, fun _ => ⟨loc, rfl, h⟩⟩
  | d :: ds, loc, hb, h => by
    obtain ⟨l1, e1, e2, e3⟩ := hb d (List.mem_cons_self ..) loc h
    cases hq : q d with
    | true =>
      obtain ⟨l2, g1, g2⟩ := e2 hq
      refine ⟨fun _ => ⟨l2, by simp only [forRun, e1, g1], g2⟩, fun e => ?_⟩
      simp [hq] at e
    | false =>
      obtain ⟨l2, g1, g2⟩ := e3 hq
      obtain ⟨k1, k2⟩ := for_find ds l2 (fun x hx => hb x (List.mem_cons_of_mem _ hx)) g2
      refine ⟨fun e => ?_, fun e => ?_⟩
      · rw [List.any_cons, hq, Bool.false_or] at e
        obtain ⟨l3, m1, m2⟩ := k1 e
        exact ⟨l3, by simp only [forRun, e1, g1]; exact m1, m2⟩
      · rw [List.any_cons, hq, Bool.false_or] at e
        obtain ⟨l3, m1, m2⟩ := k2 e
        exact ⟨l3, by simp only [forRun, e1, g1]; exact m1, m2⟩
theorem small_of {n : Int} (h0 : 0 ≤ n) (h : n < 2 ^ 60) : small n = true := by
  unfold small
  simp only [Bool.and_eq_true, decide_eq_true_eq]
  omega
end MP
namespace MP
section
variable {G : Nat → D} {C : CallS}
theorem evC_one {m : ME} {loc loc' : Loc} {b : Bool} (h : ev G C m loc = some (.val (.bl b), loc')) : evC G C [m] loc = some (b, loc') := by
  simp only [evC, h, res, truth]
  cases b <;> rfl
theorem evT_bl {m : ME} {loc loc' : Loc} {b : Bool} (h : ev G C m loc = some (.val (.bl b), loc')) : evT G C m loc = some (b, loc') := by
  simp only [evT, h, res, truth]
end
def has (A : List Int) (c : Int) : Bool := A.any (fun y => y == c)
theorem any_has (c : Int) (A : List Int) : (A.any ((fun y => D.beq y (.int c)) ∘ D.int)) = has A c := rfl
def unI : D → Int
  | .int i => i
  | _ => 0
def tupI (xs : List Int) : D := .tup (xs.map D.int)
def lstI (xs : List Int) : D := .lst (xs.map D.int)
end MP
namespace MP
theorem ev_lc_ok {G : Nat → D} {C : CallS} {own : List Nat} {p : Pat} {it : IT} {cs : List ME} {elt : ME} {loc l1 l2 : Loc} {items ds : List D} (h1 : evI G C it loc = some (items, l1)) (h2 : own.all (freeD l1) = true) (h3 : items.length ≤ big)
    (h4 : lcRun own p (evC G C cs) (ev G C elt) items (wipeL l1 own) = some (ds, l2)) : ev G C (.lc own p it cs elt) loc = some (.new ds, back l1 l2 own) := by
  rw [ev, h1]
  simp only [h2, decide_eq_true h3, Bool.and_self, if_true, h4]
end MP
namespace MP
theorem ev_lc_at {G : Nat → D} {C : CallS} (own : List Nat) (p : Pat) (it : IT) (cs : List ME) (elt : ME) (loc l2 : Loc) {items ds : List D} (h1 : evI G C it loc = some (items, loc)) (h2 : own.all (freeD loc) = true) (h3 : items.length ≤ big)
    (h4 : lcRun own p (evC G C cs) (ev G C elt) items (wipeL loc own) = some (ds, l2)) (h5 : back loc l2 own = loc) : ev G C (.lc own p it cs elt) loc = some (.new ds, loc) := by
  rw [ev_lc_ok h1 h2 h3 h4, h5]
end MP

namespace MP
open PySem L2
/-! the evaluator, arm by arm, with all arguments written (printed by geneq.py) -/
@[simp] theorem qev_c (G : Nat → D) (C : CallS) (d : D) (loc : Loc) : ev G C (.c d) loc = (some (.val d, loc)) := by
  first | (rw [ev]; done) | (rw [ev]; rfl)
@[simp] theorem qev_g (G : Nat → D) (C : CallS) (k : Nat) (loc : Loc) : ev G C (.g k) loc = (some (.val (G k), loc)) := by
  first | (rw [ev]; done) | (rw [ev]; rfl)
@[simp] theorem qev_v (G : Nat → D) (C : CallS) (i : Nat) (loc : Loc) : ev G C (.v i) loc = (match loc[i]? with
    | some (.dat d) => some (.val d, loc)
    | _ => none) := by
  first | (rw [ev]; done) | (rw [ev]; rfl)
@[simp] theorem qev_r (G : Nat → D) (C : CallS) (i : Nat) (loc : Loc) : ev G C (.r i) loc = (match loc[i]? with
    | some (.own _ _) => some (.ref i, loc)
    | some (.scr _) => some (.ref i, loc)
    | some (.dat d) => some (.val d, loc)
    | _ => none) := by
  first | (rw [ev]; done) | (rw [ev]; rfl)
@[simp] theorem qev_fz (G : Nat → D) (C : CallS) (i : Nat) (loc : Loc) : ev G C (.fz i) loc = (match loc[i]? with
    | some (.own false ds) => some (.val (.lst ds), loc.set i (.dat (.lst ds)))
    | some (.dat d) => some (.val d, loc)
    | _ => none) := by
  first | (rw [ev]; done) | (rw [ev]; rfl)
@[simp] theorem qev_tup (G : Nat → D) (C : CallS) (es : List ME) (loc : Loc) : ev G C (.tup es) loc = (match evs G C es loc with
    | some (rs, l1) => match rs.mapM toVal with
      | some ds => some (.val (.tup ds), l1)
      | none => none
    | none => none) := by
  first | (rw [ev]; done) | (rw [ev]; rfl)
@[simp] theorem qev_lst (G : Nat → D) (C : CallS) (es : List ME) (loc : Loc) : ev G C (.lst es) loc = (match evs G C es loc with
    | some (rs, l1) => match rs.mapM toVal with
      | some ds => some (.new ds, l1)
      | none => none
    | none => none) := by
  first | (rw [ev]; done) | (rw [ev]; rfl)
@[simp] theorem qev_o1 (G : Nat → D) (C : CallS) (o : O1) (a : ME) (loc : Loc) : ev G C (.o1 o a) loc = (match ev G C a loc with
    | some (r, l1) => match res l1 r with
      | some d => match ap1 o d with
        | some r' => some (r', l1)
        | none => none
      | none => none
    | none => none) := by
  first | (rw [ev]; done) | (rw [ev]; rfl)
@[simp] theorem qev_o2 (G : Nat → D) (C : CallS) (o : O2) (a b : ME) (loc : Loc) : ev G C (.o2 o a b) loc = (match ev G C a loc with
    | some (r, l1) => match ev G C b l1 with
      | some (r', l2) => match res l2 (sett r), res l2 r' with
        | some d, some e => match ap2 o d e with
          | some r'' => some (r'', l2)
          | none => none
        | _, _ => none
      | none => none
    | none => none) := by
  first | (rw [ev]; done) | (rw [ev]; rfl)
@[simp] theorem qev_ch (G : Nat → D) (C : CallS) (o o' : O2) (a b c : ME) (loc : Loc) : ev G C (.ch o o' a b c) loc = (match ev G C a loc with
    | some (ra, l1) => match ev G C b l1 with
      | some (rb, l2) => match res l2 (sett ra), res l2 rb with
        | some d, some e => match ap2 o d e with
          | some (.val (.bl true)) => match ev G C c l2 with
            | some (rc, l3) => match res l3 (sett rb), res l3 rc with
              | some e', some f => match ap2 o' e' f with
                | some (.val (.bl k)) => some (.val (.bl k), l3)
                | _ => none
              | _, _ => none
            | none => none
          | some (.val (.bl false)) => some (.val (.bl false), l2)
          | _ => none
        | _, _ => none
      | none => none
    | none => none) := by
  first | (rw [ev]; done) | (rw [ev]; rfl)
@[simp] theorem qev_sl (G : Nat → D) (C : CallS) (a : ME) (lo hi : Option ME) (loc : Loc) : ev G C (.sl a lo hi) loc = (match ev G C a loc with
    | some (r, l1) => match evo G C lo l1 with
      | some (x, l2) => match evo G C hi l2 with
        | some (y, l3) => match res l3 (sett r) with
          | some d => match apSl d x y with
            | some r' => some (r', l3)
            | none => none
          | none => none
        | none => none
      | none => none
    | none => none) := by
  first | (rw [ev]; done) | (rw [ev]; rfl)
@[simp] theorem qev_and (G : Nat → D) (C : CallS) (a b : ME) (loc : Loc) : ev G C (.and a b) loc = (match ev G C a loc with
    | some (r, l1) => match res l1 r with
      | some d => match truth d with
        | some true => ev G C b l1
        | some false => some (sett r, l1)
        | none => none
      | none => none
    | none => none) := by
  first | (rw [ev]; done) | (rw [ev]; rfl)
@[simp] theorem qev_or (G : Nat → D) (C : CallS) (a b : ME) (loc : Loc) : ev G C (.or a b) loc = (match ev G C a loc with
    | some (r, l1) => match res l1 r with
      | some d => match truth d with
        | some true => some (sett r, l1)
        | some false => ev G C b l1
        | none => none
      | none => none
    | none => none) := by
  first | (rw [ev]; done) | (rw [ev]; rfl)
@[simp] theorem qev_not (G : Nat → D) (C : CallS) (a : ME) (loc : Loc) : ev G C (.not a) loc = (match ev G C a loc with
    | some (r, l1) => match res l1 r with
      | some d => match truth d with
        | some k => some (.val (.bl (!k)), l1)
        | none => none
      | none => none
    | none => none) := by
  first | (rw [ev]; done) | (rw [ev]; rfl)
@[simp] theorem qev_ite (G : Nat → D) (C : CallS) (c a b : ME) (loc : Loc) : ev G C (.ite c a b) loc = (match ev G C c loc with
    | some (r, l1) => match res l1 r with
      | some d => match truth d with
        | some true => ev G C a l1
        | some false => ev G C b l1
        | none => none
      | none => none
    | none => none) := by
  first | (rw [ev]; done) | (rw [ev]; rfl)
@[simp] theorem qev_call (G : Nat → D) (C : CallS) (f : Nat) (as : List ME) (loc : Loc) : ev G C (.call f as) loc = (match evs G C as loc with
    | some (rs, l1) => doCall C f rs l1
    | none => none) := by
  first | (rw [ev]; done) | (rw [ev]; rfl)
@[simp] theorem qev_callK (G : Nat → D) (C : CallS) (f : Nat) (as ks : List ME) (p : List Nat) (loc : Loc) : ev G C (.callK f as ks p) loc = (match evs G C as loc with
    | some (rs, l1) => match evs G C ks l1 with
      | some (ss, l2) => match perm p (rs ++ ss) with
        | some ts => doCall C f ts l2
        | none => none
      | none => none
    | none => none) := by
  first | (rw [ev]; done) | (rw [ev]; rfl)
theorem qev_lc (G : Nat → D) (C : CallS) (own : List Nat) (p : Pat) (it : IT) (cs : List ME) (elt : ME) (loc : Loc) : ev G C (.lc own p it cs elt) loc = (match evI G C it loc with
    | some (items, l1) => if own.all (freeD l1) && decide (items.length ≤ big) then
        match lcRun own p (evC G C cs) (ev G C elt) items (wipeL l1 own) with
        | some (ds, l2) => some (.new ds, back l1 l2 own)
        | none => none
      else none
    | none => none) := by
  first | (rw [ev]; done) | (rw [ev]; rfl)
@[simp] theorem qev_app (G : Nat → D) (C : CallS) (i : Nat) (e : ME) (loc : Loc) : ev G C (.app i e) loc = (match loc[i]? with
    | some (.own _ _) => match ev G C e loc with
      | some (r, l1) => match toVal r, l1[i]? with
        | some d, some (.own b ds) => if ds.length < big then some (.val .non, l1.set i (.own b (ds ++ [d]))) else none
        | _, _ => none
      | none => none
    | _ => none) := by
  first | (rw [ev]; done) | (rw [ev]; rfl)
@[simp] theorem qev_pop (G : Nat → D) (C : CallS) (i : Nat) (loc : Loc) : ev G C (.pop i) loc = (match loc[i]? with
    | some (.own b ds) => match ds.getLast? with
      | some d => some (.val d, loc.set i (.own b ds.dropLast))
      | none => none
    | _ => none) := by
  first | (rw [ev]; done) | (rw [ev]; rfl)
@[simp] theorem qev_popAt (G : Nat → D) (C : CallS) (i : Nat) (e : ME) (loc : Loc) : ev G C (.popAt i e) loc = (match loc[i]? with
    | some (.own _ _) => match ev G C e loc with
      | some (.val (.int k), l1) => match l1[i]? with
        | some (.own b ds) => if 0 ≤ k ∧ k < 2 ^ 62 then match ds[k.toNat]? with
          | some d => some (.val d, l1.set i (.own b (ds.eraseIdx k.toNat)))
          | none => none
          else none
        | _ => none
      | _ => none
    | _ => none) := by
  first | (rw [ev]; done) | (rw [ev]; rfl)
@[simp] theorem qev_clear (G : Nat → D) (C : CallS) (i : Nat) (loc : Loc) : ev G C (.clear i) loc = (match loc[i]? with
    | some (.own b ds) => some (.val .non, loc.set i (.own b []))
    | _ => none) := by
  first | (rw [ev]; done) | (rw [ev]; rfl)
@[simp] theorem qev_ext (G : Nat → D) (C : CallS) (i : Nat) (e : ME) (loc : Loc) : ev G C (.ext i e) loc = (match loc[i]? with
    | some (.own _ _) => match ev G C e loc with
      | some (r, l1) => match toVal r, l1[i]? with
        | some (.lst es), some (.own b ds) => if ds.length + es.length ≤ big then some (.val .non, l1.set i (.own b (ds ++ es))) else none
        | _, _ => none
      | none => none
    | _ => none) := by
  first | (rw [ev]; done) | (rw [ev]; rfl)
@[simp] theorem qev_sIx (G : Nat → D) (C : CallS) (i : Nat) (e : ME) (loc : Loc) : ev G C (.sIx i e) loc = (match loc[i]? with
    | some (.scr ns) => match ev G C e loc with
      | some (.val (.int k), l1) => if 0 ≤ k then match ns[k.toNat]? with
        | some n => some (.val (.int n), l1)
        | none => none
        else none
      | _ => none
    | _ => none) := by
  first | (rw [ev]; done) | (rw [ev]; rfl)
@[simp] theorem qev_sLen (G : Nat → D) (C : CallS) (i : Nat) (loc : Loc) : ev G C (.sLen i) loc = (match loc[i]? with
    | some (.scr ns) => some (.val (.int ns.length), loc)
    | _ => none) := by
  first | (rw [ev]; done) | (rw [ev]; rfl)
@[simp] theorem qev_sSl (G : Nat → D) (C : CallS) (i : Nat) (lo hi : Option ME) (loc : Loc) : ev G C (.sSl i lo hi) loc = (match loc[i]? with
    | some (.scr ns) => match evo G C lo loc with
      | some (x, l1) => match evo G C hi l1 with
        | some (y, l2) => some (.new (cutD (ns.map D.int) x y), l2)
        | none => none
      | none => none
    | _ => none) := by
  first | (rw [ev]; done) | (rw [ev]; rfl)
@[simp] theorem qevs_nil (G : Nat → D) (C : CallS)  (loc : Loc) : evs G C [] loc = (some ([], loc)) := by
  first | (rw [evs]; done) | (rw [evs]; rfl)
@[simp] theorem qevs_cons (G : Nat → D) (C : CallS) (e : ME) (es : List ME) (loc : Loc) : evs G C (e :: es) loc = (match ev G C e loc with
    | some (r, l1) => match evs G C es l1 with
      | some (rs, l2) => some (sett r :: rs, l2)
      | none => none
    | none => none) := by
  first | (rw [evs]; done) | (rw [evs]; rfl)
@[simp] theorem qevo_none (G : Nat → D) (C : CallS)  (loc : Loc) : evo G C none loc = (some (none, loc)) := by
  first | (rw [evo]; done) | (rw [evo]; rfl)
@[simp] theorem qevo_some (G : Nat → D) (C : CallS) (e : ME) (loc : Loc) : evo G C (some e) loc = (match ev G C e loc with
    | some (.val (.int i), l1) => some (some i, l1)
    | _ => none) := by
  first | (rw [evo]; done) | (rw [evo]; rfl)
@[simp] theorem qevC_nil (G : Nat → D) (C : CallS)  (loc : Loc) : evC G C [] loc = (some (true, loc)) := by
  first | (rw [evC]; done) | (rw [evC]; rfl)
@[simp] theorem qevC_cons (G : Nat → D) (C : CallS) (e : ME) (es : List ME) (loc : Loc) : evC G C (e :: es) loc = (match ev G C e loc with
    | some (r, l1) => match res l1 r with
      | some d => match truth d with
        | some true => evC G C es l1
        | some false => some (false, l1)
        | none => none
      | none => none
    | none => none) := by
  first | (rw [evC]; done) | (rw [evC]; rfl)
@[simp] theorem qevI_seq (G : Nat → D) (C : CallS) (a : ME) (loc : Loc) : evI G C (.seq a) loc = (match ev G C a loc with
    | some (r, l1) => match toVal r with
      | some (.lst ds) => some (ds, l1)
      | _ => none
    | none => none) := by
  first | (rw [evI]; done) | (rw [evI]; rfl)
@[simp] theorem qevI_tpl (G : Nat → D) (C : CallS) (a : ME) (loc : Loc) : evI G C (.tpl a) loc = (match ev G C a loc with
    | some (r, l1) => match toVal r with
      | some (.tup ds) => some (ds, l1)
      | _ => none
    | none => none) := by
  first | (rw [evI]; done) | (rw [evI]; rfl)
@[simp] theorem qevI_rng1 (G : Nat → D) (C : CallS) (a : ME) (loc : Loc) : evI G C (.rng1 a) loc = (match ev G C a loc with
    | some (r, l1) => match r with
      | .val (.int n) => if small n then some (rngL 0 n.toNat, l1) else none
      | _ => none
    | none => none) := by
  first | (rw [evI]; done) | (rw [evI]; rfl)
@[simp] theorem qevI_rng2 (G : Nat → D) (C : CallS) (a b : ME) (loc : Loc) : evI G C (.rng2 a b) loc = (match ev G C a loc with
    | some (r, l1) => match ev G C b l1 with
      | some (r', l2) => match r, r' with
        | .val (.int m), .val (.int n) => if small m && small n then some (rngL m (n - m).toNat, l2) else none
        | _, _ => none
      | none => none
    | none => none) := by
  first | (rw [evI]; done) | (rw [evI]; rfl)
@[simp] theorem qevI_enum (G : Nat → D) (C : CallS) (a : ME) (loc : Loc) : evI G C (.enum a) loc = (match ev G C a loc with
    | some (r, l1) => match toVal r with
      | some (.lst ds) => some (enumL 0 ds, l1)
      | _ => none
    | none => none) := by
  first | (rw [evI]; done) | (rw [evI]; rfl)
@[simp] theorem qevI_zip (G : Nat → D) (C : CallS) (a b : ME) (loc : Loc) : evI G C (.zip a b) loc = (match ev G C a loc with
    | some (r, l1) => match ev G C b l1 with
      | some (r', l2) => match toVal r, toVal r' with
        | some (.lst ds), some (.lst es) => some (zipL ds es, l2)
        | _, _ => none
      | none => none
    | none => none) := by
  first | (rw [evI]; done) | (rw [evI]; rfl)
@[simp] theorem qsx_set (G : Nat → D) (C : CallS) (F : Nat) (p : Pat) (e : ME) (loc : Loc) : sx G C F (.set p e) loc = (match ev G C e loc with
    | some (r, l1) => match toVal r with
      | some d => (bindP p d l1).map .nx
      | none => none
    | none => none) := by
  first | (rw [sx]; done) | (rw [sx]; rfl)
@[simp] theorem qsx_own (G : Nat → D) (C : CallS) (F : Nat) (i : Nat) (e : ME) (loc : Loc) : sx G C F (.own i e) loc = (match ev G C e loc with
    | some (.new ds, l1) => (put l1 i (.own false ds)).map .nx
    | _ => none) := by
  first | (rw [sx]; done) | (rw [sx]; rfl)
@[simp] theorem qsx_par (G : Nat → D) (C : CallS) (F : Nat) (i j : Nat) (a b : ME) (loc : Loc) : sx G C F (.par i j a b) loc = (match ev G C a loc with
    | some (r, l1) => match ev G C b l1 with
      | some (r', l2) => match toVal r, toVal r' with
        | some d, some e => match put l2 i (.dat d) with
          | some l3 => (put l3 j (.dat e)).map .nx
          | none => none
        | _, _ => none
      | none => none
    | none => none) := by
  first | (rw [sx]; done) | (rw [sx]; rfl)
@[simp] theorem qsx_aug (G : Nat → D) (C : CallS) (F : Nat) (i : Nat) (o : O2) (e : ME) (loc : Loc) : sx G C F (.aug i o e) loc = (match loc[i]? with
    | some (.dat d) => match ev G C e loc with
      | some (r, l1) => match d, toVal r with
        | .int x, some (.int y) => match o with
          | .add => (put l1 i (.dat (.int (x + y)))).map .nx
          | .sub => (put l1 i (.dat (.int (x - y)))).map .nx
          | _ => none
        | _, _ => none
      | none => none
    | _ => none) := by
  first | (rw [sx]; done) | (rw [sx]; rfl)
@[simp] theorem qsx_ex (G : Nat → D) (C : CallS) (F : Nat) (e : ME) (loc : Loc) : sx G C F (.ex e) loc = (match ev G C e loc with
    | some (_, l1) => some (.nx l1)
    | none => none) := by
  first | (rw [sx]; done) | (rw [sx]; rfl)
@[simp] theorem qsx_ret (G : Nat → D) (C : CallS) (F : Nat) (e : ME) (loc : Loc) : sx G C F (.ret e) loc = (match ev G C e loc with
    | some (r, l1) => match r with
      | .ref _ => none
      | r => some (.rt r l1)
    | none => none) := by
  first | (rw [sx]; done) | (rw [sx]; rfl)
@[simp] theorem qsx_retN (G : Nat → D) (C : CallS) (F : Nat)  (loc : Loc) : sx G C F (.retN) loc = (some (.rt (.val .non) loc)) := by
  first | (rw [sx]; done) | (rw [sx]; rfl)
@[simp] theorem qsx_ite (G : Nat → D) (C : CallS) (F : Nat) (c : ME) (t f : List MS) (loc : Loc) : sx G C F (.ite c t f) loc = (match evT G C c loc with
    | some (true, l1) => sxs G C F t l1
    | some (false, l1) => sxs G C F f l1
    | none => none) := by
  first | (rw [sx]; done) | (rw [sx]; rfl)
@[simp] theorem qsx_loop (G : Nat → D) (C : CallS) (F : Nat) (p : Pat) (it : IT) (b : List MS) (loc : Loc) : sx G C F (.loop p it b) loc = (match evI G C it loc with
    | some (items, l1) => forRun p (sxs G C F b) items l1
    | none => none) := by
  first | (rw [sx]; done) | (rw [sx]; rfl)
@[simp] theorem qsx_wh (G : Nat → D) (C : CallS) (F : Nat) (c : ME) (b : List MS) (loc : Loc) : sx G C F (.wh c b) loc = (whRun (evT G C c) (sxs G C F b) F loc) := by
  first | (rw [sx]; done) | (rw [sx]; rfl)
@[simp] theorem qsx_put (G : Nat → D) (C : CallS) (F : Nat) (i : Nat) (k e : ME) (loc : Loc) : sx G C F (.put i k e) loc = (match ev G C e loc with
    | some (r, l1) => match l1[i]? with
      | some (.own _ _) => match ev G C k l1 with
        | some (.val (.int n), l2) => match toVal r, l2[i]? with
          | some d, some (.own b ds) => if 0 ≤ n ∧ n < ds.length then some (.nx (l2.set i (.own b (ds.set n.toNat d)))) else none
          | _, _ => none
        | _ => none
      | _ => none
    | none => none) := by
  first | (rw [sx]; done) | (rw [sx]; rfl)
@[simp] theorem qsx_pass (G : Nat → D) (C : CallS) (F : Nat)  (loc : Loc) : sx G C F (.pass) loc = (some (.nx loc)) := by
  first | (rw [sx]; done) | (rw [sx]; rfl)
@[simp] theorem qsx_brk (G : Nat → D) (C : CallS) (F : Nat)  (loc : Loc) : sx G C F (.brk) loc = (some (.bk loc)) := by
  first | (rw [sx]; done) | (rw [sx]; rfl)
@[simp] theorem qsx_cont (G : Nat → D) (C : CallS) (F : Nat)  (loc : Loc) : sx G C F (.cont) loc = (some (.ct loc)) := by
  first | (rw [sx]; done) | (rw [sx]; rfl)
@[simp] theorem qsxs_nil (G : Nat → D) (C : CallS) (F : Nat)  (loc : Loc) : sxs G C F [] loc = (some (.nx loc)) := by
  first | (rw [sxs]; done) | (rw [sxs]; rfl)
@[simp] theorem qsxs_cons (G : Nat → D) (C : CallS) (F : Nat) (s : MS) (ss : List MS) (loc : Loc) : sxs G C F (s :: ss) loc = (match sx G C F s loc with
    | some (.nx l1) => sxs G C F ss l1
    | o => o) := by
  first | (rw [sxs]; done) | (rw [sxs]; rfl)
end MP

namespace MP
namespace X
open PySem L2
/-! statements, step by step -/
section
variable {G : Nat → D} {C : CallS} {F : Nat} {loc l1 l2 l3 : Loc} {r r' : R} {d d' : D} {e a b c : ME} {p : Pat} {i j : Nat} {o : Out} {s : MS} {ss t f : List MS} {k : Bool} {ds es : List D}
theorem s_set (h1 : ev G C e loc = some (r, l1)) (h2 : toVal r = some d) (h3 : bindP p d l1 = some l2) : sx G C F (.set p e) loc = some (.nx l2) := by
  rw [sx, h1]; simp only [h2, h3, Option.map_some]
theorem s_own (h1 : ev G C e loc = some (.new ds, l1)) (h3 : put l1 i (.own false ds) = some l2) : sx G C F (.own i e) loc = some (.nx l2) := by
  rw [sx, h1]; simp only [h3, Option.map_some]
theorem s_ret (h1 : ev G C e loc = some (r, l1)) (h2 : ∀ i, r ≠ .ref i) : sx G C F (.ret e) loc = some (.rt r l1) := by
  rw [sx, h1]
  cases r with
  | ref i => exact absurd rfl (h2 i)
  | val d => rfl
  | new ds => rfl
theorem s_retV (h1 : ev G C e loc = some (.val d, l1)) : sx G C F (.ret e) loc = some (.rt (.val d) l1) := s_ret h1 (fun _ z => by cases z)
theorem s_retL (h1 : ev G C e loc = some (.new ds, l1)) : sx G C F (.ret e) loc = some (.rt (.new ds) l1) := s_ret h1 (fun _ z => by cases z)
theorem s_ex (h1 : ev G C e loc = some (r, l1)) : sx G C F (.ex e) loc = some (.nx l1) := by
  rw [sx, h1]
theorem s_T (h1 : evT G C c loc = some (true, l1)) (h2 : sxs G C F t l1 = some o) : sx G C F (.ite c t f) loc = some o := by
  rw [sx, h1]; exact h2
theorem s_F (h1 : evT G C c loc = some (false, l1)) (h2 : sxs G C F f l1 = some o) : sx G C F (.ite c t f) loc = some o := by
  rw [sx, h1]; exact h2
theorem s_loop {it : IT} (h1 : evI G C it loc = some (ds, l1)) (h2 : forRun p (sxs G C F t) ds l1 = some o) : sx G C F (.loop p it t) loc = some o := by
  rw [sx, h1]; exact h2
theorem ss_nx (h1 : sx G C F s loc = some (.nx l1)) (h2 : sxs G C F ss l1 = some o) : sxs G C F (s :: ss) loc = some o := by
  rw [sxs, h1]; exact h2
theorem ss_rt (h1 : sx G C F s loc = some (.rt r l1)) : sxs G C F (s :: ss) loc = some (.rt r l1) := by
  rw [sxs, h1]
theorem ss_rt_of (h1 : sx G C F s loc = some (.rt r l1)) : sxs G C F (s :: ss) loc = some (.rt r l1) := ss_rt h1
theorem ss_nil : sxs G C F [] loc = some (.nx loc) := by rw [sxs]
theorem run_rt {fd : FD} {a a' : Loc} (h0 : a.length = fd.arity) (h1 : sxs G C F fd.body (a ++ List.replicate (fd.slots - fd.arity) .none) = some (.rt r l1)) (h2 : lent a l1 = some a') : runFD G C F fd a = some (r, a') := by
  unfold runFD
  rw [if_pos h0, h1]
  simp only [h2]
theorem run_nx {fd : FD} {a a' : Loc} (h0 : a.length = fd.arity) (h1 : sxs G C F fd.body (a ++ List.replicate (fd.slots - fd.arity) .none) = some (.nx l1)) (h2 : lent a l1 = some a') : runFD G C F fd a = some (.val .non, a') := by
  unfold runFD
  rw [if_pos h0, h1]
  simp only [h2]
/-! expressions, step by step -/
theorem e_r0 (h : loc[i]? = some (.dat d)) : ev G C (.r i) loc = some (.val d, loc) := by rw [ev, h]
theorem e_rO {b : Bool} (h : loc[i]? = some (.own b ds)) : ev G C (.r i) loc = some (.ref i, loc) := by rw [ev, h]
theorem e_fz0 (h : loc[i]? = some (.dat d)) : ev G C (.fz i) loc = some (.val d, loc) := by rw [ev, h]
theorem e_o1 {o : O1} (h1 : ev G C a loc = some (r, l1)) (h2 : res l1 r = some d) (h3 : ap1 o d = some r') : ev G C (.o1 o a) loc = some (r', l1) := by
  rw [ev, h1]; simp only [h2, h3]
theorem e_o2 {o : O2} {r1 r2 : R} (h1 : ev G C a loc = some (r1, l1)) (h2 : ev G C b l1 = some (r2, l2)) (h3 : res l2 (sett r1) = some d) (h4 : res l2 r2 = some d') (h5 : ap2 o d d' = some r) : ev G C (.o2 o a b) loc = some (r, l2) := by
  rw [ev, h1]; simp only [h2, h3, h4, h5]
/-- operands that are plain -/
theorem e_p1 {o : O1} (h1 : ev G C a loc = some (.val d, l1)) (h3 : ap1 o d = some r') : ev G C (.o1 o a) loc = some (r', l1) := e_o1 h1 rfl h3
theorem e_p2 {o : O2} (h1 : ev G C a loc = some (.val d, l1)) (h2 : ev G C b l1 = some (.val d', l2)) (h5 : ap2 o d d' = some r) : ev G C (.o2 o a b) loc = some (r, l2) := e_o2 h1 h2 rfl rfl h5
theorem e_n1 {o : O1} (h1 : ev G C a loc = some (.new ds, l1)) (h3 : ap1 o (.lst ds) = some r') : ev G C (.o1 o a) loc = some (r', l1) := e_o1 h1 rfl h3
theorem e_call {as : List ME} {rs : List R} {fn : Nat} (h1 : evs G C as loc = some (rs, l1)) (h2 : doCall C fn rs l1 = some (r, l2)) : ev G C (.call fn as) loc = some (r, l2) := by
  rw [ev, h1]; exact h2
theorem es_nil : evs G C [] loc = some ([], loc) := by rw [evs]
theorem es_cons {as : List ME} {rs : List R} (h1 : ev G C a loc = some (r, l1)) (h2 : evs G C as l1 = some (rs, l2)) : evs G C (a :: as) loc = some (sett r :: rs, l2) := by
  rw [evs, h1]; simp only [h2]
theorem es_p {as : List ME} {rs : List R} (h1 : ev G C a loc = some (.val d, l1)) (h2 : evs G C as l1 = some (rs, l2)) : evs G C (a :: as) loc = some (.val d :: rs, l2) := es_cons h1 h2
theorem e_callD {as : List ME} {fn : Nat} (h1 : evs G C as loc = some (ds.map R.val, l1)) (h2 : Ans C fn ds r) : ev G C (.call fn as) loc = some (r, l1) := e_call h1 (h2.call _)
theorem e_k : ev G C (.c d) loc = some (.val d, loc) := by rw [ev]
theorem e_callK {as ks : List ME} {rs zs ts : List R} {fn : Nat} {pm : List Nat} (h1 : evs G C as loc = some (rs, l1)) (h2 : evs G C ks l1 = some (zs, l2)) (h3 : perm pm (rs ++ zs) = some ts) (h4 : doCall C fn ts l2 = some (r, l3)) : ev G C (.callK fn as ks pm) loc = some (r, l3) := by
  rw [ev, h1]; simp only [h2, h3, h4]
theorem e_callKD {as ks : List ME} {rs zs : List R} {fn : Nat} {pm : List Nat} (h1 : evs G C as loc = some (rs, l1)) (h2 : evs G C ks l1 = some (zs, l2)) (h3 : perm pm (rs ++ zs) = some (ds.map R.val)) (h4 : Ans C fn ds r) : ev G C (.callK fn as ks pm) loc = some (r, l2) := e_callK h1 h2 h3 (h4.call _)
theorem e_lst {as : List ME} {rs : List R} (h1 : evs G C as loc = some (rs, l1)) (h2 : rs.mapM toVal = some ds) : ev G C (.lst as) loc = some (.new ds, l1) := by
  rw [ev, h1]; simp only [h2]
theorem e_tup {as : List ME} {rs : List R} (h1 : evs G C as loc = some (rs, l1)) (h2 : rs.mapM toVal = some ds) : ev G C (.tup as) loc = some (.val (.tup ds), l1) := by
  rw [ev, h1]; simp only [h2]
theorem t_bl {k : Bool} (h1 : ev G C a loc = some (.val (.bl k), l1)) : evT G C a loc = some (k, l1) := evT_bl h1
/-- a name is bound -/
def fdS (s : Slot) : Prop := s = .none ∨ ∃ d, s = .dat d
theorem bind_v (h : ∃ s, loc[i]? = some s ∧ fdS s) : bindP (.v i) d loc = some (loc.set i (.dat d)) := by
  obtain ⟨s, h1, h2⟩ := h
  have e : free loc i = true := by
    unfold free
    rw [h1]
    rcases h2 with rfl | ⟨x, rfl⟩ <;> rfl
  show put loc i (.dat d) = _
  unfold put
  rw [if_pos e]
def frS (s : Slot) : Prop := fdS s ∨ ∃ ds, s = .own false ds
theorem put_fr {s' : Slot} (h : ∃ s, loc[i]? = some s ∧ frS s) : put loc i s' = some (loc.set i s') := by
  obtain ⟨s, h1, h2⟩ := h
  have e : free loc i = true := by
    unfold free
    rw [h1]
    rcases h2 with (rfl | ⟨x, rfl⟩) | ⟨x, rfl⟩ <;> rfl
  unfold put
  rw [if_pos e]
theorem freeD_fd (h : ∃ s, loc[i]? = some s ∧ fdS s) : freeD loc i = true := by
  obtain ⟨s, h1, h2⟩ := h
  unfold freeD
  rw [h1]
  rcases h2 with rfl | ⟨x, rfl⟩ <;> rfl
theorem fdS_dat {d : D} : fdS (.dat d) := .inr ⟨d, rfl⟩
theorem i_seq (h1 : ev G C a loc = some (r, l1)) (h2 : toVal r = some (.lst ds)) : evI G C (.seq a) loc = some (ds, l1) := by
  rw [evI, h1]; simp only [h2]
theorem i_tpl (h1 : ev G C a loc = some (r, l1)) (h2 : toVal r = some (.tup ds)) : evI G C (.tpl a) loc = some (ds, l1) := by
  rw [evI, h1]; simp only [h2]
theorem i_r1 {n : Int} (h1 : ev G C a loc = some (.val (.int n), l1)) (h2 : small n = true) : evI G C (.rng1 a) loc = some (rngL 0 n.toNat, l1) := by
  rw [evI, h1]; simp only [h2, if_true]
theorem i_r2 {m n : Int} (h1 : ev G C a loc = some (.val (.int m), l1)) (h2 : ev G C b l1 = some (.val (.int n), l2)) (h3 : small m = true) (h4 : small n = true) : evI G C (.rng2 a b) loc = some (rngL m (n - m).toNat, l2) := by
  rw [evI, h1]; simp only [h2, h3, h4, Bool.and_self, if_true]
end
end X
end MP

namespace MP
open PySem L2 X
/-! the laws' own helpers: cells, wells, draws -/
section
variable {G : Nat → D} {C : CallS} {F : Nat}
theorem ans_run {T : List FD} {k j : Nat} {d : FD} {ds : List D} {r : R} (hj : T[j]? = some d) (h : runFD G (callN G T F k) F d (ds.map .dat) = some (r, ds.map .dat)) : Ans (callN G T F (k + 1)) j ds r := by
  unfold Ans
  rw [callN, hj]
  exact h
theorem callN_run {T : List FD} {k j : Nat} {d : FD} {a : Loc} (hj : T[j]? = some d) : callN G T F (k + 1) j a = runFD G (callN G T F k) F d a := by
  rw [callN, hj]
/-- a call with a lent list and a plain value -/
theorem do_ref {f i : Nat} {loc : Loc} {b : Bool} {ds ds' : List D} {d : D} {r : R} (h : loc[i]? = some (.own b ds)) (hC : C f [.own true ds, .dat d] = some (r, [.own true ds', .dat d])) : doCall C f [.ref i, .val d] loc = some (r, loc.set i (.own b ds')) := by
  simp only [doCall, refs, nodupB, List.contains_nil, Bool.not_false, Bool.and_self, if_true, argsOf, argOf, h, hC, given]
theorem do_scr {f i : Nat} {loc : Loc} {ns : List Int} {d : D} {r : R} (h : loc[i]? = some (.scr ns)) (hC : C f [.scr ns, .dat d] = some (r, [.scr ns, .dat d])) : doCall C f [.ref i, .val d] loc = some (r, loc) := by
  simp only [doCall, refs, nodupB, List.contains_nil, Bool.not_false, Bool.and_self, if_true, argsOf, argOf, h, hC, given]
def Draws (C : CallS) (j : Nat) : Prop := ∀ (ds : List D) (m : Nat) (n : Int), IsWell m ds → 0 < n → n < 2 ^ 60 → m < 2 ^ 40 → ∃ r ds', C j [.own true ds, .dat (.int n)] = some (.val (.int r), [.own true ds', .dat (.int n)]) ∧ 0 ≤ r ∧ r < n ∧ IsWell (m + 1) ds'
def Ones (C : CallS) (j : Nat) : Prop := ∀ (ds : List D) (m : Nat) (xs : List D), IsWell m ds → xs ≠ [] → xs.length < 2 ^ 60 → m < 2 ^ 40 → ∃ d ds', C j [.own true ds, .dat (.lst xs)] = some (.val d, [.own true ds', .dat (.lst xs)]) ∧ d ∈ xs ∧ IsWell (m + 1) ds'
theorem draws_of {T : List FD} {k j : Nat} (hj : T[j]? = some drawA) : Draws (callN G T F (k + 1)) j := fun ds m n h1 h2 h3 h4 => by
  rw [callN_run hj]
  exact drawA_ok h1 h2 h3 h4
def oneA (j : Nat) : FD := ⟨2, 2, [.ret (.o2 .ix (.r 1) (.call j [.r 0, .o1 .len (.r 1)]))]⟩
theorem ones_of {T : List FD} {k j i : Nat} (hj : T[j]? = some (oneA i)) (hd : Draws (callN G T F k) i) : Ones (callN G T F (k + 1)) j := fun ds m xs h1 h2 h3 h4 => by
  rw [callN_run hj]
  have hp : 0 < xs.length := List.length_pos_iff.mpr h2
  obtain ⟨r, ds', e1, e2, e3, e4⟩ := hd ds m xs.length h1 (by omega) (by omega) h4
  have hr : r.toNat < xs.length := by omega
  have es : seqAt xs r = some xs[r.toNat] := by
    unfold seqAt
    rw [if_pos e2]
    simp [hr]
  refine ⟨xs[r.toNat], ds', ?_, List.getElem_mem hr, e4⟩
  refine run_rt rfl (ss_rt (s_retV (e_p2 (d := .lst xs) (e_r0 rfl) (l2 := [.own true ds', .dat (.lst xs)]) (e_call (es_cons (e_rO (ds := ds) (b := true) rfl) (es_p (e_p1 (e_r0 (d := .lst xs) rfl) rfl) es_nil)) (do_ref (ds := ds) (ds' := ds') (b := true) rfl e1)) ?_))) rfl
  simp only [ap2, es, Option.map_some]
/-- a draw at a local well -/
theorem Draws.at_ {j i m : Nat} {loc : Loc} {ds : List D} {n : Int} (h : Draws C j) (hi : loc[i]? = some (.own false ds)) (hw : IsWell m ds) (h0 : 0 < n) (h1 : n < 2 ^ 60) (hm : m < 2 ^ 40) :
    ∃ r ds', doCall C j [.ref i, .val (.int n)] loc = some (.val (.int r), loc.set i (.own false ds')) ∧ 0 ≤ r ∧ r < n ∧ IsWell (m + 1) ds' := by
  obtain ⟨r, ds', e1, e2, e3, e4⟩ := h ds m n hw h0 h1 hm
  exact ⟨r, ds', do_ref hi e1, e2, e3, e4⟩
theorem Ones.at_ {j i m : Nat} {loc : Loc} {ds : List D} {xs : List D} (h : Ones C j) (hi : loc[i]? = some (.own false ds)) (hw : IsWell m ds) (h0 : xs ≠ []) (h1 : xs.length < 2 ^ 60) (hm : m < 2 ^ 40) :
    ∃ d ds', doCall C j [.ref i, .val (.lst xs)] loc = some (.val d, loc.set i (.own false ds')) ∧ d ∈ xs ∧ IsWell (m + 1) ds' := by
  obtain ⟨r, ds', e1, e2, e3⟩ := h ds m xs hw h0 h1 hm
  exact ⟨r, ds', do_ref hi e1, e2, e3⟩
def wellA : FD := ⟨1, 1, [.ret (.lst [.o2 .ix (.lst [.c (.int 0), .r 0]) (.o1 .int (.o2 .ge (.r 0) (.o2 .pow (.c (.int 10)) (.c (.int 18))))), .r 0, .c (.int 0)])]⟩
theorem wellA_ok (c : Int) : ∃ ds, runFD G C F wellA [.dat (.int c)] = some (.new ds, [.dat (.int c)]) ∧ IsWell 0 ds := by
  have hp : ev G C (.o2 .pow (.c (.int 10)) (.c (.int 18))) [.dat (.int c)] = some (.val (.int 1000000000000000000), [.dat (.int c)]) := e_p2 e_k e_k rfl
  have h1 : ∀ k : Bool, decide ((1000000000000000000 : Int) ≤ c) = k → ev G C (.o2 .ix (.lst [.c (.int 0), .r 0]) (.o1 .int (.o2 .ge (.r 0) (.o2 .pow (.c (.int 10)) (.c (.int 18)))))) [.dat (.int c)] = some (.val (.int (if k then c else 0)), [.dat (.int c)]) := fun k hk => by
    refine X.e_o2 (X.e_lst (es_p e_k (es_p (e_r0 rfl) es_nil)) rfl) (e_p1 (d := .bl k) (e_p2 (e_r0 rfl) hp ?_) rfl) rfl rfl ?_
    · simp only [ap2, cmpI, hk]
    · cases k <;> rfl
  refine ⟨[.int (if decide ((1000000000000000000 : Int) ≤ c) then c else 0), .int c, .int 0], run_rt rfl (ss_rt (s_retL (X.e_lst (es_p (h1 _ rfl) (es_p (e_r0 rfl) (es_p e_k es_nil))) rfl))) rfl, _, _, _, rfl, by decide, by decide⟩
def cellA : FD := ⟨2, 2, [.ite (.o2 .lt (.r 1) (.sLen 0)) [.ret (.sIx 0 (.r 1))] [], .ret (.c (.int 0))]⟩
theorem e_sLen {i : Nat} {loc : Loc} {ns : List Int} (h : loc[i]? = some (.scr ns)) : ev G C (.sLen i) loc = some (.val (.int ns.length), loc) := by rw [ev, h]
theorem e_sIx {i : Nat} {loc l1 : Loc} {ns : List Int} {a : ME} {k : Nat} {n : Int} (h : loc[i]? = some (.scr ns)) (h1 : ev G C a loc = some (.val (.int k), l1)) (h2 : ns[k]? = some n) : ev G C (.sIx i a) loc = some (.val (.int n), l1) := by
  rw [ev, h]; simp only [h1]; rw [if_pos (by omega), Int.toNat_natCast, h2]
theorem cellA_ok (ns : List Int) (k : Nat) : ∃ n, runFD G C F cellA [.scr ns, .dat (.int k)] = some (.val (.int n), [.scr ns, .dat (.int k)]) := by
  have h1 : ∀ b : Bool, decide ((k : Int) < ns.length) = b → evT G C (.o2 .lt (.r 1) (.sLen 0)) [.scr ns, .dat (.int k)] = some (b, [.scr ns, .dat (.int k)]) := fun b hb =>
    X.t_bl (e_p2 (e_r0 rfl) (e_sLen rfl) (by simp only [ap2, hb]))
  by_cases h : (k : Int) < ns.length
  · have hk : k < ns.length := by omega
    exact ⟨ns[k], run_rt rfl (ss_rt (X.s_T (h1 true (decide_eq_true h)) (ss_rt (s_retV (e_sIx (ns := ns) rfl (e_r0 rfl) (List.getElem?_eq_getElem hk)))))) rfl⟩
  · exact ⟨0, run_rt rfl (ss_nx (X.s_F (h1 false (decide_eq_false h)) ss_nil) (ss_rt (s_retV e_k))) rfl⟩
theorem add_lst {xs ys : List D} (h : xs.length + ys.length ≤ big) : ap2 .add (.lst xs) (.lst ys) = some (.new (xs ++ ys)) := by
  simp only [ap2, if_pos h]
theorem e_sSl {i : Nat} {loc : Loc} {ns : List Int} {x y : Int} (h : loc[i]? = some (.scr ns)) : ev G C (.sSl i (some (.c (.int x))) (some (.c (.int y)))) loc = some (.new (cutD (ns.map D.int) (some x) (some y)), loc) := by
  rw [ev, h]; simp only [evo, ev]
theorem cut_mem {xs : List D} {lo hi : Option Int} {d : D} (h : d ∈ cutD xs lo hi) : d ∈ xs := List.mem_of_mem_drop (List.mem_of_mem_take h)
theorem cut_len (xs : List D) (lo hi : Option Int) : (cutD xs lo hi).length ≤ xs.length := by
  unfold cutD
  rw [List.length_take, List.length_drop]
  omega
/-- the cells that a law goes through -/
def cellsM (ic : Nat) (k : Int) : ME := .o2 .add (.lst [.call ic [.r 0, .c (.int 0)]]) (.sSl 0 (some (.c (.int 1))) (some (.c (.int k))))
theorem cells_ok {T : List FD} {kk ic : Nat} {k : Int} {loc : Loc} {ns : List Int} (hj : T[ic]? = some cellA) (hl : ns.length ≤ 63) (h : loc[0]? = some (.scr ns)) : ∃ items : List D, evI G (callN G T F (kk + 1)) (.seq (cellsM ic k)) loc = some (items, loc) ∧ ∀ d ∈ items, ∃ c, d = .int c := by
  obtain ⟨n, e1⟩ := cellA_ok (G := G) (C := callN G T F kk) (F := F) ns 0
  have e2 : callN G T F (kk + 1) ic [.scr ns, .dat (.int 0)] = some (.val (.int n), [.scr ns, .dat (.int 0)]) := by
    rw [callN_run hj]; exact e1
  have hlen : ([D.int n] : List D).length + (cutD (ns.map D.int) (some 1) (some k)).length ≤ big := by
    have := cut_len (ns.map D.int) (some 1) (some k)
    rw [List.length_map] at this
    have h64 : 64 ≤ big := by decide
    simp only [List.length_cons, List.length_nil]
    omega
  have er : ev G (callN G T F (kk + 1)) (.r 0) loc = some (.ref 0, loc) := by rw [ev, h]
  refine ⟨[D.int n] ++ cutD (ns.map D.int) (some 1) (some k), X.i_seq (X.e_o2 (X.e_lst (es_p (e_call (es_cons er (es_p e_k es_nil)) (do_scr h e2)) es_nil) (show List.mapM toVal [R.val (.int n)] = some [D.int n] from rfl)) (e_sSl h) rfl rfl (add_lst hlen)) rfl, fun d hd => ?_⟩
  rcases List.mem_append.mp hd with hd | hd
  · exact ⟨n, by simpa using hd⟩
  · obtain ⟨c, _, rfl⟩ := List.mem_map.mp (cut_mem hd)
    exact ⟨c, rfl⟩
end
end MP

/-! the tables of the law: terms of the evaluator, entries, head (printed by gen.py) -/
namespace MP
namespace T
open PySem PySem.Spec PyProof.Rows L2
def top (i : Nat) : Stmt := PySem.Challenge.pw_rillwise_k81_apart_or_not.main.body.getD i (.Pass ⟨0, 0, 0, 0⟩)
def f0 : FD := ⟨1, 1, [.ret (.lst [.o2 .ix (.lst [.c (.int 0), .r 0]) (.o1 .int (.o2 .ge (.r 0) (.o2 .pow (.c (.int 10)) (.c (.int 18))))), .r 0, .c (.int 0)])]⟩
def f1 : FD := ⟨2, 5, [.ite (.o2 .gt (.o2 .ix (.r 0) (.c (.int 0))) (.c (.int 0))) [.set (.v 4) (.o2 .mod (.o2 .ix (.r 0) (.c (.int 0))) (.r 1)), .put 0 (.c (.int 0)) (.o2 .fdiv (.o2 .ix (.r 0) (.c (.int 0))) (.r 1)), .ret (.r 4)] [], .put 0 (.c (.int 2)) (.o2 .add (.o2 .ix (.r 0) (.c (.int 2))) (.c (.int 1))), .set (.v 2) (.o2 .mod (.o2 .fdiv (.o2 .ix (.r 0) (.c (.int 1))) (.c (.int 2147483629))) (.c (.int 65521))), .set (.v 3) (.o2 .mod (.o2 .pow (.o2 .add (.o2 .add (.o2 .add (.o2 .mod (.o2 .ix (.r 0) (.c (.int 1))) (.c (.int 2147483629))) (.o2 .mul (.c (.int 7919)) (.o2 .ix (.r 0) (.c (.int 2))))) (.r 2)) (.c (.int 1))) (.c (.int 5))) (.c (.int 2147483647))), .set (.v 3) (.o2 .mod (.o2 .mul (.r 3) (.o2 .add (.o2 .add (.o2 .fdiv (.r 3) (.c (.int 1009))) (.c (.int 69621))) (.o2 .ix (.r 0) (.c (.int 2))))) (.c (.int 2147483629))), .ret (.o2 .mod (.o2 .mod (.o2 .mul (.r 3) (.o2 .add (.o2 .fdiv (.r 3) (.c (.int 2003))) (.c (.int 40692)))) (.c (.int 2147483399))) (.r 1))]⟩
def f2 : FD := ⟨2, 7, [.set (.v 2) (.lst [.tup []]), .loop (.v 3) (.rng1 (.r 1)) [.set (.v 4) (.lst []), .loop (.v 5) (.seq (.r 2)) [.set (.v 4) (.o2 .add (.r 4) (.lc [6] (.v 6) (.rng2 (.o2 .add (.o2 .ix (.o2 .add (.lst [.c (.int 0)]) (.o1 .list (.r 5))) (.o1 .neg (.c (.int 1)))) (.c (.int 1))) (.o2 .add (.r 0) (.c (.int 1)))) [] (.o2 .add (.r 5) (.tup [.r 6]))))], .set (.v 2) (.r 4)], .ret (.r 2)]⟩
def f3 : FD := ⟨2, 2, [.ret (.o2 .ix (.r 1) (.call 1 [.r 0, .o1 .len (.r 1)]))]⟩
def f4 : FD := ⟨2, 2, [.ite (.o2 .lt (.r 1) (.sLen 0)) [.ret (.sIx 0 (.r 1))] [], .ret (.c (.int 0))]⟩
def f5 : FD := ⟨3, 8, [.set (.v 3) (.lc [4] (.v 4) (.rng2 (.c (.int 1)) (.o2 .add (.r 2) (.c (.int 1)))) [] (.o2 .sub (.o1 .int (.o2 .isin (.r 4) (.r 0))) (.o1 .int (.o2 .isin (.r 4) (.r 1))))), .loop (.v 4) (.rng1 (.r 2)) [.loop (.v 5) (.rng2 (.o2 .add (.r 4) (.c (.int 1))) (.r 2)) [.loop (.v 6) (.rng2 (.o2 .add (.r 5) (.c (.int 1))) (.r 2)) [.loop (.v 7) (.rng2 (.o2 .add (.r 6) (.c (.int 1))) (.r 2)) [.ite (.o2 .isin (.lst [.o2 .ix (.r 3) (.r 4), .o2 .ix (.r 3) (.r 5), .o2 .ix (.r 3) (.r 6), .o2 .ix (.r 3) (.r 7)]) (.lst [.lst [.c (.int 1), .o1 .neg (.c (.int 1)), .c (.int 1), .o1 .neg (.c (.int 1))], .lst [.o1 .neg (.c (.int 1)), .c (.int 1), .o1 .neg (.c (.int 1)), .c (.int 1)]])) [.ret (.c (.bl false))] []]]]], .ret (.c (.bl true))]⟩
def f6 : FD := ⟨3, 6, [.set (.v 3) (.lc [4] (.v 4) (.rng2 (.c (.int 1)) (.o2 .add (.r 2) (.c (.int 1)))) [.o2 .ne (.o2 .isin (.r 4) (.r 0)) (.o2 .isin (.r 4) (.r 1))] (.o2 .isin (.r 4) (.r 0))), .ret (.o1 .len (.lc [5] (.v 5) (.rng1 (.o1 .len (.r 3))) [.o2 .ne (.o2 .ix (.r 3) (.r 5)) (.o2 .ix (.r 3) (.o2 .sub (.r 5) (.c (.int 1))))] (.r 5)))]⟩
def f7 : FD := ⟨3, 3, [.ret (.o2 .le (.call 6 [.r 0, .r 1, .r 2]) (.c (.int 2)))]⟩
def f8 : FD := ⟨3, 4, [.set (.v 3) (.lst [.callK 7 [.r 0, .r 1] [.r 2] [0, 1, 2], .callK 7 [.r 1, .r 0] [.r 2] [0, 1, 2]]), .ite (.or (.not (.o1 (.isi .bool) (.o2 .ix (.r 3) (.c (.int 0))))) (.o2 .ne (.o2 .ix (.r 3) (.c (.int 0))) (.o2 .ix (.r 3) (.c (.int 1))))) [.ret (.c .non)] [], .ret (.o2 .ix (.r 3) (.c (.int 0)))]⟩
def f9 : FD := ⟨4, 5, [.ite (.o2 .eq (.r 0) (.c (.int 0))) [.ret (.o1 .tuple (.o1 .sorted (.lc [4] (.v 4) (.tpl (.r 2)) [] (.o2 .add (.o2 .mod (.o2 .add (.o2 .sub (.r 4) (.c (.int 1))) (.r 1)) (.r 3)) (.c (.int 1))))))] [], .ite (.o2 .eq (.r 0) (.c (.int 1))) [.ret (.o1 .tuple (.o1 .sorted (.lc [4] (.v 4) (.tpl (.r 2)) [] (.o2 .sub (.o2 .add (.r 3) (.c (.int 1))) (.r 4)))))] [], .ret (.o1 .tuple (.lc [4] (.v 4) (.rng2 (.c (.int 1)) (.o2 .add (.r 3) (.c (.int 1)))) [.o2 .notin (.r 4) (.r 2)] (.r 4)))]⟩
def f10 : FD := ⟨1, 13, [.loop (.v 1) (.seq (.o2 .add (.lst [.call 4 [.r 0, .c (.int 0)]]) (.sSl 0 (.some (.c (.int 1))) (.some (.c (.int 8)))))) [.own 2 (.call 0 [.r 1]), .set (.v 3) (.o2 .add (.c (.int 1)) (.call 3 [.r 2, .lst [.c (.int 5), .c (.int 5), .c (.int 4), .call 1 [.r 2, .c (.int 6)]]])), .set (.v 4) (.call 1 [.r 2, .o2 .add (.r 3) (.c (.int 1))]), .set (.v 5) (.call 2 [.r 3, .r 4]), .set (.v 6) (.call 3 [.r 2, .r 5]), .set (.v 7) (.call 1 [.r 2, .r 3]), .loop (.v 8) (.seq (.r 5)) [.set (.v 9) (.call 5 [.r 6, .r 8, .r 3]), .ite (.o2 .ne (.call 8 [.r 6, .r 8, .r 3]) (.r 9)) [.ret (.c (.bl false))] [], .loop (.v 10) (.rng1 (.c (.int 3))) [.ite (.o2 .ne (.call 8 [.call 9 [.r 10, .r 7, .r 6, .r 3], .call 9 [.r 10, .r 7, .r 8, .r 3], .r 3]) (.r 9)) [.ret (.c (.bl false))] []], .set (.v 11) (.o1 .tuple (.o1 .sorted (.lc [12] (.v 12) (.rng1 (.r 4)) [] (.o2 .add (.o2 .mod (.o2 .add (.r 7) (.r 12)) (.r 3)) (.c (.int 1)))))), .ite (.o2 .isnot (.call 8 [.r 11, .r 8, .r 3]) (.c (.bl true))) [.ret (.c (.bl false))] []]], .ret (.c (.bl true))]⟩
def e0 : Ent := ⟨"_law_well", "_law_well", top 5, ["_law_cell"], ["_law_cell"], f0⟩
def e1 : Ent := ⟨"_law_draw", "_law_draw", top 6, ["_law_well_here", "_law_size", "_law_salt", "_law_number", "_law_found"], ["_law_well_here", "_law_size"], f1⟩
def e2 : Ent := ⟨"_law_choices", "_law_choices", top 8, ["_law_n", "_law_k", "_law_found", "_law_turn", "_law_longer", "_law_some", "_law_a"], ["_law_n", "_law_k"], f2⟩
def e3 : Ent := ⟨"_law_one", "_law_one", top 7, ["_law_well_here", "_law_some"], ["_law_well_here", "_law_some"], f3⟩
def e4 : Ent := ⟨"_law_cell_at", "_law_cell_at", top 4, ["_law_script", "_law_k"], ["_law_script", "_law_k"], f4⟩
def e5 : Ent := ⟨"_law_apart", "_law_apart", top 9, ["_law_one_here", "_law_other", "_law_n", "_law_line", "_law_a", "_law_b", "_law_c", "_law_d"], ["_law_one_here", "_law_other", "_law_n"], f5⟩
def e6 : Ent := ⟨"turns_between", "turns_between", top 1, ["one", "other", "columns", "marks", "column", "at"], ["one", "other", "columns"], f6⟩
def e7 : Ent := ⟨"apart", "apart", top 2, ["one", "other", "columns"], ["one", "other", "columns"], f7⟩
def e8 : Ent := ⟨"_law_told", "_law_told", top 12, ["_law_one_here", "_law_other", "_law_n", "_law_found"], ["_law_one_here", "_law_other", "_law_n"], f8⟩
def e9 : Ent := ⟨"_law_seen", "_law_seen", top 11, ["_law_way", "_law_far", "_law_choice", "_law_n", "_law_a"], ["_law_way", "_law_far", "_law_choice", "_law_n"], f9⟩
def e10 : Ent := ⟨"law", "law", top 13, ["_law_script", "_law_cell", "_law_well_here", "_law_n", "_law_k", "_law_some", "_law_one_here", "_law_far", "_law_other", "_law_due", "_law_way", "_law_round_one", "_law_step"], ["_law_script"], f10⟩
def tab : Tab := ⟨["bool", "int", "isinstance", "len", "list", "range", "sorted", "tuple"], [], [("_law_well", 0), ("_law_draw", 1), ("_law_choices", 2), ("_law_one", 3), ("_law_cell_at", 4), ("_law_apart", 5), ("turns_between", 6), ("_law_told", 8), ("_law_seen", 9), ("law", 10)], [⟨"apart", 7, ["columns"], 2, [0, 1, 2]⟩]⟩
def es : List Ent := [e0, e1, e2, e3, e4, e5, e6, e7, e8, e9, e10]
theorem look0 : e0.ok 60 tab = true := by decide +kernel
theorem look1 : e1.ok 60 tab = true := by decide +kernel
theorem look2 : e2.ok 60 tab = true := by decide +kernel
theorem look3 : e3.ok 60 tab = true := by decide +kernel
theorem look4 : e4.ok 60 tab = true := by decide +kernel
theorem look5 : e5.ok 60 tab = true := by decide +kernel
theorem look6 : e6.ok 60 tab = true := by decide +kernel
theorem look7 : e7.ok 60 tab = true := by decide +kernel
theorem look8 : e8.ok 60 tab = true := by decide +kernel
theorem look9 : e9.ok 60 tab = true := by decide +kernel
theorem look10 : e10.ok 60 tab = true := by decide +kernel
theorem look : es.all (·.ok 60 tab) = true := by unfold es; simp only [List.all_cons, List.all_nil, Bool.and_true, Bool.and_eq_true, look0, look1, look2, look3, look4, look5, look6, look7, look8, look9, look10, and_self]
theorem kb0 {K : PySem.W.Frag} {f : Addr} {fd : FuncData} (F : FunD K e7.name e7.qual (defArgs e7.st) (defBody e7.st) (defScope e7.st) [] [] f fd) : KwOk K fd e7.ps ⟨"apart", 7, ["columns"], 2, [0, 1, 2]⟩ := kw_ok F rfl (fun _ _ _ _ _ _ us ws h1 h2 => match us, ws, h1, h2 with | [_, _], [_], _, _ => rfl)
theorem eo0 : EntOk tab 0 e0 where
  sc := ⟨rfl, rfl, rfl, by decide +kernel, rfl, by decide +kernel, by decide +kernel⟩
  bd := fun _ {_ _ _} F => F.bindsN fun _ _ _ _ _ _ us hl => match us, hl with | [_], _ => rfl
  kw := fun F q hq e => by
    unfold tab at hq
    simp only [List.mem_cons, List.mem_nil_iff, or_false] at hq
    rcases hq with rfl
    · exact absurd (show 7 = 0 from e) (by decide)
theorem eo1 : EntOk tab 1 e1 where
  sc := ⟨rfl, rfl, rfl, by decide +kernel, rfl, by decide +kernel, by decide +kernel⟩
  bd := fun _ {_ _ _} F => F.bindsN fun _ _ _ _ _ _ us hl => match us, hl with | [_, _], _ => rfl
  kw := fun F q hq e => by
    unfold tab at hq
    simp only [List.mem_cons, List.mem_nil_iff, or_false] at hq
    rcases hq with rfl
    · exact absurd (show 7 = 1 from e) (by decide)
theorem eo2 : EntOk tab 2 e2 where
  sc := ⟨rfl, rfl, rfl, by decide +kernel, rfl, by decide +kernel, by decide +kernel⟩
  bd := fun _ {_ _ _} F => F.bindsN fun _ _ _ _ _ _ us hl => match us, hl with | [_, _], _ => rfl
  kw := fun F q hq e => by
    unfold tab at hq
    simp only [List.mem_cons, List.mem_nil_iff, or_false] at hq
    rcases hq with rfl
    · exact absurd (show 7 = 2 from e) (by decide)
theorem eo3 : EntOk tab 3 e3 where
  sc := ⟨rfl, rfl, rfl, by decide +kernel, rfl, by decide +kernel, by decide +kernel⟩
  bd := fun _ {_ _ _} F => F.bindsN fun _ _ _ _ _ _ us hl => match us, hl with | [_, _], _ => rfl
  kw := fun F q hq e => by
    unfold tab at hq
    simp only [List.mem_cons, List.mem_nil_iff, or_false] at hq
    rcases hq with rfl
    · exact absurd (show 7 = 3 from e) (by decide)
theorem eo4 : EntOk tab 4 e4 where
  sc := ⟨rfl, rfl, rfl, by decide +kernel, rfl, by decide +kernel, by decide +kernel⟩
  bd := fun _ {_ _ _} F => F.bindsN fun _ _ _ _ _ _ us hl => match us, hl with | [_, _], _ => rfl
  kw := fun F q hq e => by
    unfold tab at hq
    simp only [List.mem_cons, List.mem_nil_iff, or_false] at hq
    rcases hq with rfl
    · exact absurd (show 7 = 4 from e) (by decide)
theorem eo5 : EntOk tab 5 e5 where
  sc := ⟨rfl, rfl, rfl, by decide +kernel, rfl, by decide +kernel, by decide +kernel⟩
  bd := fun _ {_ _ _} F => F.bindsN fun _ _ _ _ _ _ us hl => match us, hl with | [_, _, _], _ => rfl
  kw := fun F q hq e => by
    unfold tab at hq
    simp only [List.mem_cons, List.mem_nil_iff, or_false] at hq
    rcases hq with rfl
    · exact absurd (show 7 = 5 from e) (by decide)
theorem eo6 : EntOk tab 6 e6 where
  sc := ⟨rfl, rfl, rfl, by decide +kernel, rfl, by decide +kernel, by decide +kernel⟩
  bd := fun _ {_ _ _} F => F.bindsN fun _ _ _ _ _ _ us hl => match us, hl with | [_, _, _], _ => rfl
  kw := fun F q hq e => by
    unfold tab at hq
    simp only [List.mem_cons, List.mem_nil_iff, or_false] at hq
    rcases hq with rfl
    · exact absurd (show 7 = 6 from e) (by decide)
theorem eo7 : EntOk tab 7 e7 where
  sc := ⟨rfl, rfl, rfl, by decide +kernel, rfl, by decide +kernel, by decide +kernel⟩
  bd := fun z => absurd z (by unfold tab; decide)
  kw := fun F q hq e => by
    unfold tab at hq
    simp only [List.mem_cons, List.mem_nil_iff, or_false] at hq
    rcases hq with rfl
    · exact kb0 F
theorem eo8 : EntOk tab 8 e8 where
  sc := ⟨rfl, rfl, rfl, by decide +kernel, rfl, by decide +kernel, by decide +kernel⟩
  bd := fun _ {_ _ _} F => F.bindsN fun _ _ _ _ _ _ us hl => match us, hl with | [_, _, _], _ => rfl
  kw := fun F q hq e => by
    unfold tab at hq
    simp only [List.mem_cons, List.mem_nil_iff, or_false] at hq
    rcases hq with rfl
    · exact absurd (show 7 = 8 from e) (by decide)
theorem eo9 : EntOk tab 9 e9 where
  sc := ⟨rfl, rfl, rfl, by decide +kernel, rfl, by decide +kernel, by decide +kernel⟩
  bd := fun _ {_ _ _} F => F.bindsN fun _ _ _ _ _ _ us hl => match us, hl with | [_, _, _, _], _ => rfl
  kw := fun F q hq e => by
    unfold tab at hq
    simp only [List.mem_cons, List.mem_nil_iff, or_false] at hq
    rcases hq with rfl
    · exact absurd (show 7 = 9 from e) (by decide)
theorem eo10 : EntOk tab 10 e10 where
  sc := ⟨rfl, rfl, rfl, by decide +kernel, rfl, by decide +kernel, by decide +kernel⟩
  bd := fun _ {_ _ _} F => F.bindsN fun _ _ _ _ _ _ us hl => match us, hl with | [_], _ => rfl
  kw := fun F q hq e => by
    unfold tab at hq
    simp only [List.mem_cons, List.mem_nil_iff, or_false] at hq
    rcases hq with rfl
    · exact absurd (show 7 = 10 from e) (by decide)
theorem eoks : allEnt tab 0 es := ⟨eo0, eo1, eo2, eo3, eo4, eo5, eo6, eo7, eo8, eo9, eo10, trivial⟩
def fa : List He.Fa := [.glo "_law_well", .glo "_law_draw", .glo "_law_choices", .glo "_law_one", .glo "_law_cell_at", .glo "_law_apart", .glo "turns_between", .glo "apart", .glo "_law_told", .glo "_law_seen", .glo "law", .free "bool", .free "int", .free "isinstance", .free "len", .free "list", .free "range", .free "sorted", .free "tuple"]
def fnD : List He.DefD := es.map Ent.dd
abbrev Rw : PySem.W.OpenRow := PySem.W.OpenLaw.row PySem.Challenge.rw_rillwise_k81_apart_or_not
abbrev hk : PySem.W.Hook := He.hookD 4 fa fnD
def obx (s : PySem.W.SharedT) : He.AlD := He.obsDG 4 fa fnD (HandSHeadRun.getT s)
theorem obx_eq (s : PySem.W.SharedT) : obx s = hk.obs s.abs := He.obsDG_eq (HandSHeadRun.getT_eq s)
def loose : List Str := ["turns_between", "apart", "_law_cell_at", "_law_well", "_law_draw", "_law_one", "_law_choices", "_law_apart", "_law_all_apart", "_law_seen", "_law_told"]
theorem run (w : World) : HandSHeadRun.RunEq Rw (PySem.W.view Rw.prog [13]) hk obx 4000 loose w := by
  intro os
  kernel_rfl
def depth : Nat := 8
def cas : Nat → Addr := fun _ => 0
def fls : Nat → List Str := fun _ => []
def Gd : Nat → D := fun _ => .non
end T
end MP

namespace MP
namespace T
open PySem L2 X
def tb : List FD := es.map (·.d)
def cols (n : Nat) : List Int := (List.range n).map fun i => ((i + 1 : Nat) : Int)
def mk (n : Nat) (A B : List Int) : List Bool := ((cols n).filter fun c => !(has A c == has B c)).map fun c => has A c
def at_ (m : List Bool) (i : Nat) : Bool := m.getD i false
def turns (m : List Bool) : List Nat := (List.range m.length).filter fun i => !(at_ m i == at_ m (if i = 0 then m.length - 1 else i - 1))
def P (n : Nat) (A B : List Int) : Bool := decide ((turns (mk n A B)).length ≤ 2)
theorem seqAt_bl {m : List Bool} {i : Nat} (h : i < m.length) : seqAt (m.map D.bl) (i : Int) = some (.bl (at_ m i)) := by
  unfold seqAt at_
  rw [if_pos (by omega)]
  simp [h, List.getD]
theorem seqAt_blp {m : List Bool} {i : Nat} (h : i < m.length) : seqAt (m.map D.bl) ((i : Int) - 1) = some (.bl (at_ m (if i = 0 then m.length - 1 else i - 1))) := by
  by_cases h0 : i = 0
  · subst h0
    unfold seqAt at_
    rw [if_neg (by omega), if_pos (by simp; omega)]
    have : (((0 : Nat) : Int) - 1 + ((m.map D.bl).length : Int)).toNat = m.length - 1 := by simp; omega
    rw [this]
    have : m.length - 1 < m.length := by omega
    simp [this, List.getD]
  · have e : ((i : Int) - 1) = ((i - 1 : Nat) : Int) := by omega
    rw [e, seqAt_bl (by omega), if_neg h0]
theorem rng_cols (n : Nat) : rngL 1 n = (cols n).map D.int := by
  rw [rngL_eq, cols, List.map_map]
  apply List.map_congr_left
  intro i _
  simp only [Function.comp_apply]
  congr 1
  omega
theorem h61 {C : CallS} (n : Nat) (A B : List Int) : lcRun [4] (.v 4) (evC Gd C [.o2 .ne (.o2 .isin (.r 4) (.r 0)) (.o2 .isin (.r 4) (.r 1))]) (ev Gd C (.o2 .isin (.r 4) (.r 0))) ((cols n).map .int) [.dat (tupI A), .dat (tupI B), .dat (.int n), .none, .none, .none] =
    some ((mk n A B).map .bl, [.dat (tupI A), .dat (tupI B), .dat (.int n), .none, .none, .none]) := by
  have h1 := lc_filter (own := [4]) (p := .v 4) (w := [.dat (tupI A), .dat (tupI B), .dat (.int n), .none, .none, .none])
    (cond := evC Gd C [.o2 .ne (.o2 .isin (.r 4) (.r 0)) (.o2 .isin (.r 4) (.r 1))]) (elt := ev Gd C (.o2 .isin (.r 4) (.r 0))) (q := fun d => !(has A (unI d) == has B (unI d))) (f := fun d => .bl (has A (unI d))) ((cols n).map .int)
    (fun d hd => by
      obtain ⟨i, hi, rfl⟩ := List.mem_map.mp hd
      refine ⟨[.dat (tupI A), .dat (tupI B), .dat (.int n), .none, .dat (.int i), .none], _, rfl, evC_one (by simp [ev, res, sett, ap2, plain_int, plains_int, plain_bl, any_has, tupI, D.beq, unI]; rfl), fun _ => rfl, fun _ => ⟨.val (.bl (has A i)), [.dat (tupI A), .dat (tupI B), .dat (.int n), .none, .dat (.int i), .none], by simp [ev, res, sett, ap2, plain_int, plains_int, any_has, tupI], rfl, rfl⟩⟩)
  rw [h1, List.filter_map, List.map_map, mk, List.map_map]
  rfl
theorem h62 {C : CallS} (n : Nat) (A B : List Int) (m : List Bool) : lcRun [5] (.v 5) (evC Gd C [.o2 .ne (.o2 .ix (.r 3) (.r 5)) (.o2 .ix (.r 3) (.o2 .sub (.r 5) (.c (.int 1))))]) (ev Gd C (.r 5)) ((List.range m.length).map fun i : Nat => D.int i) [.dat (tupI A), .dat (tupI B), .dat (.int n), .dat (.lst (m.map .bl)), .none, .none] =
    some ((turns m).map fun i : Nat => D.int i, [.dat (tupI A), .dat (tupI B), .dat (.int n), .dat (.lst (m.map .bl)), .none, .none]) := by
  have h2 := lc_filter (own := [5]) (p := .v 5) (w := [.dat (tupI A), .dat (tupI B), .dat (.int n), .dat (.lst (m.map .bl)), .none, .none])
    (cond := evC Gd C [.o2 .ne (.o2 .ix (.r 3) (.r 5)) (.o2 .ix (.r 3) (.o2 .sub (.r 5) (.c (.int 1))))]) (elt := ev Gd C (.r 5)) (q := fun d => !(at_ m (unI d).toNat == at_ m (if (unI d).toNat = 0 then m.length - 1 else (unI d).toNat - 1))) (f := id) ((List.range m.length).map fun i : Nat => D.int i)
    (fun d hd => by
      obtain ⟨i, hi, rfl⟩ := List.mem_map.mp hd
      have hi := List.mem_range.mp hi
      refine ⟨[.dat (tupI A), .dat (tupI B), .dat (.int n), .dat (.lst (m.map .bl)), .none, .dat (.int i)], [.dat (tupI A), .dat (tupI B), .dat (.int n), .dat (.lst (m.map .bl)), .none, .dat (.int i)], rfl, evC_one ?_, fun _ => rfl, fun _ => ⟨.val (.int i), [.dat (tupI A), .dat (tupI B), .dat (.int n), .dat (.lst (m.map .bl)), .none, .dat (.int i)], rfl, rfl, rfl⟩⟩
      simp only [ev, res, sett, ap2, plain_bl, D.beq, unI, List.getElem?_cons_succ, List.getElem?_cons_zero, seqAt_bl hi, seqAt_blp hi, Option.map_some, Bool.and_self, if_true]
      rfl)
  rw [h2, List.filter_map, List.map_id, turns]
  rfl
theorem ans6 {C : CallS} {F : Nat} (n : Nat) (hn : n ≤ 6) (A B : List Int) : runFD Gd C F f6 ([tupI A, tupI B, .int n].map .dat) = some (.val (.int (turns (mk n A B)).length), [tupI A, tupI B, .int n].map .dat) := by
  have s1 : small ((n : Int) + 1) = true := small_of (by omega) (by omega)
  have s2 : small 1 = true := by decide
  have e0 : ((n : Int) + 1 - 1).toNat = n := by omega
  have h1 := h61 (C := C) n A B
  have lm : (mk n A B).length ≤ n := by
    unfold mk
    rw [List.length_map]
    refine Nat.le_trans (List.length_filter_le _ _) ?_
    simp [cols]
  generalize mk n A B = m at *
  have h2 := h62 (C := C) n A B m
  have s3 : small (m.length : Int) = true := small_of (by omega) (by omega)
  have r1 : rngL 0 m.length = (List.range m.length).map fun i : Nat => D.int i := by
    rw [rngL_eq]; simp
  have b1 : n ≤ big := Nat.le_trans hn (by decide)
  have b2 : m.length ≤ big := Nat.le_trans lm b1
  have c1 : (cols n).length ≤ big := by rw [show (cols n).length = n by simp [cols]]; exact b1
  have k1 := ev_lc_at (G := Gd) (C := C) [4] (.v 4) (.rng2 (.c (.int 1)) (.o2 .add (.r 2) (.c (.int 1)))) [.o2 .ne (.o2 .isin (.r 4) (.r 0)) (.o2 .isin (.r 4) (.r 1))] (.o2 .isin (.r 4) (.r 0))
    [.dat (tupI A), .dat (tupI B), .dat (.int n), .none, .none, .none] _ (items := (cols n).map .int) (by simp [res, sett, ap2, s1, s2, rng_cols]) rfl (by rw [List.length_map]; exact c1) h1 rfl
  have k2 := ev_lc_at (G := Gd) (C := C) [5] (.v 5) (.rng1 (.o1 .len (.r 3))) [.o2 .ne (.o2 .ix (.r 3) (.r 5)) (.o2 .ix (.r 3) (.o2 .sub (.r 5) (.c (.int 1))))] (.r 5)
    [.dat (tupI A), .dat (tupI B), .dat (.int n), .dat (.lst (m.map .bl)), .none, .none] _ (items := (List.range m.length).map fun i : Nat => D.int i) (by simp [res, sett, ap1, s3, r1]) rfl (by rw [List.length_map, List.length_range]; exact b2) h2 rfl
  exact run_rt rfl (ss_nx (X.s_set k1 rfl rfl) (ss_rt (s_retV (e_n1 k2 (by simp only [ap1, List.length_map])))))  rfl
end T
end MP

namespace MP
namespace T
open PySem L2 X
theorem ans7 {C : CallS} {F : Nat} (n : Nat) (A B : List Int) (h6 : Ans C 6 [tupI A, tupI B, .int n] (.val (.int (turns (mk n A B)).length))) : runFD Gd C F f7 ([tupI A, tupI B, .int n].map .dat) = some (.val (.bl (P n A B)), [tupI A, tupI B, .int n].map .dat) := by
  refine run_rt rfl (ss_rt (s_retV (e_p2 (e_callD (ds := [tupI A, tupI B, .int n]) (es_p (e_r0 rfl) (es_p (e_r0 rfl) (es_p (e_r0 rfl) es_nil))) h6) e_k ?_))) rfl
  simp only [ap2, cmpI, P, Option.some.injEq, R.val.injEq, D.bl.injEq, decide_eq_decide]
  omega
theorem ans8 {C : CallS} {F : Nat} (n : Nat) (A B : List Int) (k : Bool) (h7 : Ans C 7 [tupI A, tupI B, .int n] (.val (.bl k))) (h8 : Ans C 7 [tupI B, tupI A, .int n] (.val (.bl k))) : runFD Gd C F f8 ([tupI A, tupI B, .int n].map .dat) = some (.val (.bl k), [tupI A, tupI B, .int n].map .dat) := by
  refine run_rt rfl (ss_nx (X.s_set (X.e_lst (es_p (e_callKD (ds := [tupI A, tupI B, .int n]) (es_p (e_r0 rfl) (es_p (e_r0 rfl) es_nil)) (es_p (e_r0 rfl) es_nil) rfl h7) (es_p (e_callKD (ds := [tupI B, tupI A, .int n]) (es_p (e_r0 rfl) (es_p (e_r0 rfl) es_nil)) (es_p (e_r0 rfl) es_nil) rfl h8) es_nil)) rfl) rfl rfl) (ss_nx (X.s_F (l1 := [.dat (tupI A), .dat (tupI B), .dat (.int n), .dat (.lst [.bl k, .bl k])]) ?_ ss_nil) (ss_rt (s_retV (e_p2 (e_r0 rfl) e_k rfl))))) rfl
  cases k <;> rfl
/-! the law's own look -/
def lineOf (n : Nat) (A B : List Int) : List Int := (cols n).map fun c => (if has A c then 1 else 0) - (if has B c then 1 else 0)
def gt_ (l : List Int) (i : Nat) : Int := l.getD i 0
def q4 (l : List Int) (a b c d : Nat) : Bool := (1 == gt_ l a && (-1 == gt_ l b && (1 == gt_ l c && (-1 == gt_ l d && true)))) || ((-1 == gt_ l a && (1 == gt_ l b && (-1 == gt_ l c && (1 == gt_ l d && true)))) || false)
def rg (i n : Nat) : List Nat := (List.range (n - i)).map (i + ·)
def q3 (n : Nat) (l : List Int) (a b c : Nat) : Bool := (rg (c + 1) n).any fun d => q4 l a b c d
def q2 (n : Nat) (l : List Int) (a b : Nat) : Bool := (rg (b + 1) n).any fun c => q3 n l a b c
def q1 (n : Nat) (l : List Int) (a : Nat) : Bool := (rg (a + 1) n).any fun b => q2 n l a b
def q0 (n : Nat) (l : List Int) : Bool := (List.range n).any fun a => q1 n l a
theorem h51 {C : CallS} (n : Nat) (A B : List Int) : lcRun [4] (.v 4) (evC Gd C []) (ev Gd C (.o2 .sub (.o1 .int (.o2 .isin (.r 4) (.r 0))) (.o1 .int (.o2 .isin (.r 4) (.r 1))))) ((cols n).map .int) [.dat (tupI A), .dat (tupI B), .dat (.int n), .none, .none, .none, .none, .none] =
    some ((lineOf n A B).map .int, [.dat (tupI A), .dat (tupI B), .dat (.int n), .none, .none, .none, .none, .none]) := by
  have e : evC Gd C [] = fun l => some (true, l) := by funext l; rw [evC]
  rw [e]
  have h1 := lc_map (own := [4]) (p := .v 4) (w := [.dat (tupI A), .dat (tupI B), .dat (.int n), .none, .none, .none, .none, .none])
    (elt := ev Gd C (.o2 .sub (.o1 .int (.o2 .isin (.r 4) (.r 0))) (.o1 .int (.o2 .isin (.r 4) (.r 1))))) (f := fun d => .int ((if has A (unI d) then 1 else 0) - (if has B (unI d) then 1 else 0))) ((cols n).map .int)
    (fun d hd => by
      obtain ⟨i, hi, rfl⟩ := List.mem_map.mp hd
      have u : ∀ (s : List Int) (j : Nat) (loc : Loc), loc[4]? = some (.dat (.int i)) → loc[j]? = some (.dat (tupI s)) → ev Gd C (.o1 .int (.o2 .isin (.r 4) (.r j))) loc = some (.val (.int (if has s i then 1 else 0)), loc) := fun s j loc g1 g2 =>
        e_p1 (e_p2 (e_r0 g1) (e_r0 g2) (by simp only [ap2, tupI, plain_int, plains_int, Bool.and_self, if_true]; rw [any_int])) rfl
      exact ⟨[.dat (tupI A), .dat (tupI B), .dat (.int n), .none, .dat (.int i), .none, .none, .none], _, _, rfl, e_p2 (u A 0 _ rfl rfl) (u B 1 _ rfl rfl) rfl, rfl, rfl⟩)
  rw [h1, List.map_map, lineOf, List.map_map]
  rfl
theorem seqAt_int {m : List Int} {i : Nat} (h : i < m.length) : seqAt (m.map D.int) (i : Int) = some (.int (gt_ m i)) := by
  unfold seqAt gt_
  rw [if_pos (by omega)]
  simp [h, List.getD]
theorem rng_rg (i n : Nat) (h : i ≤ n) : rngL (i : Int) ((n : Int) - (i : Int)).toNat = (rg i n).map fun j : Nat => D.int j := by
  have e : ((n : Int) - (i : Int)).toNat = n - i := by omega
  rw [rngL_eq, rg, List.map_map, e]
  apply List.map_congr_left
  intro j _
  simp only [Function.comp_apply]
  congr 1
theorem rg_mem {i n j : Nat} (h : j ∈ rg i n) : i ≤ j ∧ j < n := by
  obtain ⟨x, hx, rfl⟩ := List.mem_map.mp h
  have := List.mem_range.mp hx
  omega
abbrev L5 (n : Nat) (A B : List Int) (s4 s5 s6 s7 : Slot) : Loc := [.dat (tupI A), .dat (tupI B), .dat (.int n), .dat (.lst ((lineOf n A B).map .int)), s4, s5, s6, s7]
def I5 (n : Nat) (A B : List Int) (loc : Loc) : Prop := ∃ s4 s5 s6 s7, fdS s4 ∧ fdS s5 ∧ fdS s6 ∧ fdS s7 ∧ loc = L5 n A B s4 s5 s6 s7
theorem len5 (n : Nat) (A B : List Int) : (lineOf n A B).length = n := by simp [lineOf, cols]
theorem any_map_nat (l : List Nat) (q : Nat → Bool) (f : D → Bool) (h : ∀ i ∈ l, f (.int (i : Nat)) = q i) : (l.map fun j : Nat => D.int j).any f = l.any q := by
  induction l with
  | nil => rfl
  | cons x xs ih => simp only [List.map_cons, List.any_cons, h x (List.mem_cons_self ..), ih fun i hi => h i (List.mem_cons_of_mem _ hi)]
def b7 : List MS := [.ite (.o2 .isin (.lst [.o2 .ix (.r 3) (.r 4), .o2 .ix (.r 3) (.r 5), .o2 .ix (.r 3) (.r 6), .o2 .ix (.r 3) (.r 7)]) (.lst [.lst [.c (.int 1), .o1 .neg (.c (.int 1)), .c (.int 1), .o1 .neg (.c (.int 1))], .lst [.o1 .neg (.c (.int 1)), .c (.int 1), .o1 .neg (.c (.int 1)), .c (.int 1)]])) [.ret (.c (.bl false))] []]
def b6 : List MS := [.loop (.v 7) (.rng2 (.o2 .add (.r 6) (.c (.int 1))) (.r 2)) b7]
def b5 : List MS := [.loop (.v 6) (.rng2 (.o2 .add (.r 5) (.c (.int 1))) (.r 2)) b6]
def b4 : List MS := [.loop (.v 5) (.rng2 (.o2 .add (.r 4) (.c (.int 1))) (.r 2)) b5]
section
variable {C : CallS} {F n : Nat} {A B : List Int}
theorem x7 {a b c d : Nat} (ha : a < n) (hb : b < n) (hc : c < n) (hd : d < n) : ∃ o, sxs Gd C F b7 (L5 n A B (.dat (.int a)) (.dat (.int b)) (.dat (.int c)) (.dat (.int d))) = some o ∧
    o = (if q4 (lineOf n A B) a b c d then .rt (.val (.bl false)) (L5 n A B (.dat (.int a)) (.dat (.int b)) (.dat (.int c)) (.dat (.int d))) else .nx (L5 n A B (.dat (.int a)) (.dat (.int b)) (.dat (.int c)) (.dat (.int d)))) := by
  have hl := len5 n A B
  have g : ∀ {i j : Nat} {loc : Loc}, j < n → loc[3]? = some (.dat (.lst ((lineOf n A B).map .int))) → loc[i]? = some (.dat (.int j)) → ev Gd C (.o2 .ix (.r 3) (.r i)) loc = some (.val (.int (gt_ (lineOf n A B) j)), loc) := fun {i j loc} h1 h2 h3 =>
    e_p2 (e_r0 h2) (e_r0 h3) (by simp only [ap2, seqAt_int (hl.symm ▸ h1), Option.map_some])
  have k : ev Gd C (.o2 .isin (.lst [.o2 .ix (.r 3) (.r 4), .o2 .ix (.r 3) (.r 5), .o2 .ix (.r 3) (.r 6), .o2 .ix (.r 3) (.r 7)]) (.lst [.lst [.c (.int 1), .o1 .neg (.c (.int 1)), .c (.int 1), .o1 .neg (.c (.int 1))], .lst [.o1 .neg (.c (.int 1)), .c (.int 1), .o1 .neg (.c (.int 1)), .c (.int 1)]])) (L5 n A B (.dat (.int a)) (.dat (.int b)) (.dat (.int c)) (.dat (.int d))) = some (.val (.bl (q4 (lineOf n A B) a b c d)), L5 n A B (.dat (.int a)) (.dat (.int b)) (.dat (.int c)) (.dat (.int d))) := by
    have m1 : ∀ loc : Loc, ev Gd C (.o1 .neg (.c (.int 1))) loc = some (.val (.int (-1)), loc) := fun loc => e_p1 e_k rfl
    refine X.e_o2 (X.e_lst (es_p (g ha rfl rfl) (es_p (g hb rfl rfl) (es_p (g hc rfl rfl) (es_p (g hd rfl rfl) es_nil)))) rfl) (X.e_lst (es_cons (X.e_lst (es_p e_k (es_p (m1 _) (es_p e_k (es_p (m1 _) es_nil)))) rfl) (es_cons (X.e_lst (es_p (m1 _) (es_p e_k (es_p (m1 _) (es_p e_k es_nil)))) rfl) es_nil)) rfl) rfl rfl ?_
    rfl
  by_cases hq : q4 (lineOf n A B) a b c d = true
  · rw [if_pos hq]
    rw [hq] at k
    exact ⟨_, ss_rt_of (X.s_T (X.t_bl k) (ss_rt (s_retV e_k))), rfl⟩
  · rw [if_neg hq]
    rw [Bool.not_eq_true _ |>.mp hq] at k
    exact ⟨_, ss_nx (X.s_F (X.t_bl k) ss_nil) ss_nil, rfl⟩
def J5 (n : Nat) (A B : List Int) (loc : Loc) : Prop := ∃ s4 s5 s6 s7, loc = L5 n A B s4 s5 s6 s7
/-- what a part of the look does -/
def Fnd (q : Bool) (o : Option Out) (J I : Loc → Prop) : Prop := (q = true → ∃ l2, o = some (.rt (.val (.bl false)) l2) ∧ J l2) ∧ (q = false → ∃ l2, o = some (.nx l2) ∧ I l2)
theorem Fnd.one {q : Bool} {s : MS} {loc : Loc} {J I : Loc → Prop} (h : Fnd q (sx Gd C F s loc) J I) : Fnd q (sxs Gd C F [s] loc) J I :=
  ⟨fun e => (h.1 e).imp fun l2 z => ⟨ss_rt z.1, z.2⟩, fun e => (h.2 e).imp fun l2 z => ⟨ss_nx z.1 ss_nil, z.2⟩⟩
theorem Fnd.loop {p : Pat} {it : IT} {b : List MS} {loc : Loc} {J I : Loc → Prop} {ds : List D} {q : D → Bool} {r : Bool} (h1 : evI Gd C it loc = some (ds, loc)) (hI : I loc) (hr : ds.any q = r)
    (hb : ∀ d ∈ ds, ∀ loc, I loc → ∃ l1, bindP p d loc = some l1 ∧ Fnd (q d) (sxs Gd C F b l1) J I) : Fnd r (sx Gd C F (.loop p it b) loc) J I := by
  obtain ⟨k1, k2⟩ := for_find (p := p) (body := sxs Gd C F b) (I := I) (J := J) (q := q) (r := .val (.bl false)) ds loc hb hI
  subst hr
  exact ⟨fun e => (k1 e).imp fun l2 z => ⟨X.s_loop h1 z.1, z.2⟩, fun e => (k2 e).imp fun l2 z => ⟨X.s_loop h1 z.1, z.2⟩⟩
theorem rng_ok {i j m : Nat} {loc : Loc} (h1 : loc[i]? = some (.dat (.int m))) (h2 : loc[j]? = some (.dat (.int n))) (hm : m < n) (hn : n ≤ 6) : evI Gd C (.rng2 (.o2 .add (.r i) (.c (.int 1))) (.r j)) loc = some ((rg (m + 1) n).map fun j : Nat => D.int j, loc) := by
  have := rng_rg (m + 1) n hm
  rw [← this]
  exact i_r2 (e_p2 (e_r0 h1) e_k rfl) (e_r0 h2) (small_of (by omega) (by omega)) (small_of (by omega) (by omega))
theorem y7 {a b c d : Nat} (ha : a < n) (hb : b < n) (hc : c < n) (hd : d < n) : Fnd (q4 (lineOf n A B) a b c d) (sxs Gd C F b7 (L5 n A B (.dat (.int a)) (.dat (.int b)) (.dat (.int c)) (.dat (.int d)))) (J5 n A B) (fun l => ∃ s7, fdS s7 ∧ l = L5 n A B (.dat (.int a)) (.dat (.int b)) (.dat (.int c)) s7) := by
  obtain ⟨o, h1, h2⟩ := x7 (C := C) (F := F) (A := A) (B := B) ha hb hc hd
  rw [h1, h2]
  refine ⟨fun e => ?_, fun e => ?_⟩
  · rw [if_pos e]; exact ⟨_, rfl, _, _, _, _, rfl⟩
  · rw [e]; exact ⟨_, rfl, _, .inr ⟨_, rfl⟩, rfl⟩
theorem y6 (hn : n ≤ 6) {a b c : Nat} (ha : a < n) (hb : b < n) (hc : c < n) (s7 : Slot) (h7 : fdS s7) : Fnd (q3 n (lineOf n A B) a b c) (sxs Gd C F b6 (L5 n A B (.dat (.int a)) (.dat (.int b)) (.dat (.int c)) s7)) (J5 n A B) (fun l => ∃ s7, fdS s7 ∧ l = L5 n A B (.dat (.int a)) (.dat (.int b)) (.dat (.int c)) s7) := by
  refine Fnd.one (Fnd.loop (q := fun d => q4 (lineOf n A B) a b c (unI d).toNat) (rng_ok rfl rfl hc hn) ⟨s7, h7, rfl⟩ (any_map_nat _ _ _ fun i _ => by simp only [unI, Int.toNat_natCast]) fun d hd loc hI => ?_)
  obtain ⟨i, hi, rfl⟩ := List.mem_map.mp hd
  obtain ⟨s, hs, rfl⟩ := hI
  refine ⟨_, bind_v ⟨s, rfl, hs⟩, ?_⟩
  simp only [unI, Int.toNat_natCast]
  exact y7 ha hb hc (rg_mem hi).2
theorem y5 (hn : n ≤ 6) {a b : Nat} (ha : a < n) (hb : b < n) (s6 s7 : Slot) (h6 : fdS s6) (h7 : fdS s7) : Fnd (q2 n (lineOf n A B) a b) (sxs Gd C F b5 (L5 n A B (.dat (.int a)) (.dat (.int b)) s6 s7)) (J5 n A B) (fun l => ∃ s6 s7, fdS s6 ∧ fdS s7 ∧ l = L5 n A B (.dat (.int a)) (.dat (.int b)) s6 s7) := by
  refine Fnd.one (Fnd.loop (q := fun d => q3 n (lineOf n A B) a b (unI d).toNat) (rng_ok rfl rfl hb hn) ⟨s6, s7, h6, h7, rfl⟩ (any_map_nat _ _ _ fun i _ => by simp only [unI, Int.toNat_natCast]) fun d hd loc hI => ?_)
  obtain ⟨i, hi, rfl⟩ := List.mem_map.mp hd
  obtain ⟨s, s', hs, hs', rfl⟩ := hI
  refine ⟨_, bind_v ⟨s, rfl, hs⟩, ?_⟩
  simp only [unI, Int.toNat_natCast]
  have := y6 (C := C) (F := F) (A := A) (B := B) hn ha hb (rg_mem hi).2 s' hs'
  exact ⟨this.1, fun e => (this.2 e).imp fun l2 z => ⟨z.1, z.2.elim fun s7 w => ⟨_, s7, .inr ⟨_, rfl⟩, w.1, w.2⟩⟩⟩
theorem y4 (hn : n ≤ 6) {a : Nat} (ha : a < n) (s5 s6 s7 : Slot) (h5 : fdS s5) (h6 : fdS s6) (h7 : fdS s7) : Fnd (q1 n (lineOf n A B) a) (sxs Gd C F b4 (L5 n A B (.dat (.int a)) s5 s6 s7)) (J5 n A B) (fun l => ∃ s5 s6 s7, fdS s5 ∧ fdS s6 ∧ fdS s7 ∧ l = L5 n A B (.dat (.int a)) s5 s6 s7) := by
  refine Fnd.one (Fnd.loop (q := fun d => q2 n (lineOf n A B) a (unI d).toNat) (rng_ok rfl rfl ha hn) ⟨s5, s6, s7, h5, h6, h7, rfl⟩ (any_map_nat _ _ _ fun i _ => by simp only [unI, Int.toNat_natCast]) fun d hd loc hI => ?_)
  obtain ⟨i, hi, rfl⟩ := List.mem_map.mp hd
  obtain ⟨s, s', s'', hs, hs', hs'', rfl⟩ := hI
  refine ⟨_, bind_v ⟨s, rfl, hs⟩, ?_⟩
  simp only [unI, Int.toNat_natCast]
  have := y5 (C := C) (F := F) (A := A) (B := B) hn ha (rg_mem hi).2 s' s'' hs' hs''
  exact ⟨this.1, fun e => (this.2 e).imp fun l2 z => ⟨z.1, z.2.elim fun s6 w => w.elim fun s7 w => ⟨_, s6, s7, .inr ⟨_, rfl⟩, w.1, w.2.1, w.2.2⟩⟩⟩
theorem y3 (hn : n ≤ 6) : Fnd (q0 n (lineOf n A B)) (sx Gd C F (.loop (.v 4) (.rng1 (.r 2)) b4) (L5 n A B .none .none .none .none)) (J5 n A B) (I5 n A B) := by
  have e1 : evI Gd C (.rng1 (.r 2)) (L5 n A B .none .none .none .none) = some ((List.range n).map fun j : Nat => D.int j, L5 n A B .none .none .none .none) := by
    have := i_r1 (G := Gd) (C := C) (a := .r 2) (loc := L5 n A B .none .none .none .none) (n := n) (e_r0 rfl) (small_of (by omega) (by omega))
    rw [this, rngL_eq]; simp
  refine Fnd.loop (q := fun d => q1 n (lineOf n A B) (unI d).toNat) e1 ⟨_, _, _, _, .inl rfl, .inl rfl, .inl rfl, .inl rfl, rfl⟩ (any_map_nat _ _ _ fun i _ => by simp only [unI, Int.toNat_natCast]) fun d hd loc hI => ?_
  obtain ⟨i, hi, rfl⟩ := List.mem_map.mp hd
  obtain ⟨s, s', s'', s3, hs, hs', hs'', hs3, rfl⟩ := hI
  refine ⟨_, bind_v ⟨s, rfl, hs⟩, ?_⟩
  simp only [unI, Int.toNat_natCast]
  have := y4 (C := C) (F := F) (A := A) (B := B) hn (List.mem_range.mp hi) s' s'' s3 hs' hs'' hs3
  exact ⟨this.1, fun e => (this.2 e).imp fun l2 z => ⟨z.1, z.2.elim fun s5 w => w.elim fun s6 w => w.elim fun s7 w => ⟨_, s5, s6, s7, .inr ⟨_, rfl⟩, w.1, w.2.1, w.2.2.1, w.2.2.2⟩⟩⟩
theorem ans5 (hn : n ≤ 6) : runFD Gd C F f5 ([tupI A, tupI B, .int n].map .dat) = some (.val (.bl (!q0 n (lineOf n A B))), [tupI A, tupI B, .int n].map .dat) := by
  have s1 : small ((n : Int) + 1) = true := small_of (by omega) (by omega)
  have e0 : ((n : Int) + 1 - 1).toNat = n := by omega
  have c1 : ((cols n).map D.int).length ≤ big := by rw [List.length_map, show (cols n).length = n by simp [cols]]; exact Nat.le_trans hn (by decide)
  have i1 : evI Gd C (.rng2 (.c (.int 1)) (.o2 .add (.r 2) (.c (.int 1)))) [.dat (tupI A), .dat (tupI B), .dat (.int n), .none, .none, .none, .none, .none] = some ((cols n).map .int, [.dat (tupI A), .dat (tupI B), .dat (.int n), .none, .none, .none, .none, .none]) := by
    have := i_r2 (G := Gd) (C := C) (a := .c (.int 1)) (b := .o2 .add (.r 2) (.c (.int 1))) (loc := [.dat (tupI A), .dat (tupI B), .dat (.int n), .none, .none, .none, .none, .none]) (m := 1) (n := n + 1) e_k (e_p2 (e_r0 rfl) e_k rfl) (by decide) s1
    rw [this, e0, rng_cols]
  have k1 := ev_lc_at (G := Gd) (C := C) [4] (.v 4) (.rng2 (.c (.int 1)) (.o2 .add (.r 2) (.c (.int 1)))) [] (.o2 .sub (.o1 .int (.o2 .isin (.r 4) (.r 0))) (.o1 .int (.o2 .isin (.r 4) (.r 1))))
    [.dat (tupI A), .dat (tupI B), .dat (.int n), .none, .none, .none, .none, .none] _ i1 rfl c1 (h51 (C := C) n A B) rfl
  have y := y3 (C := C) (F := F) (n := n) (A := A) (B := B) hn
  cases hq : q0 n (lineOf n A B) with
  | true =>
    obtain ⟨l2, z1, s4, s5, s6, s7, rfl⟩ := y.1 hq
    exact run_rt rfl (ss_nx (X.s_set k1 rfl rfl) (ss_rt z1)) rfl
  | false =>
    obtain ⟨l2, z1, s4, s5, s6, s7, _, _, _, _, rfl⟩ := y.2 hq
    exact run_rt rfl (ss_nx (X.s_set k1 rfl rfl) (ss_nx z1 (ss_rt (s_retV e_k)))) rfl
end
end T
end MP

namespace MP
namespace T
open PySem L2 X
def subs : List Int → Nat → List (List Int)
  | _, 0 => [[]]
  | [], _ + 1 => []
  | x :: xs, k + 1 => (subs xs k).map (x :: ·) ++ subs xs (k + 1)
def ch (n k : Nat) : List (List Int) := subs (cols n) k
def seen0 (n far : Nat) (A : List Int) : List Int := sortS (A.map fun a => (a - 1 + far) % n + 1)
def seen1 (n : Nat) (A : List Int) : List Int := sortS (A.map fun a => (n : Int) + 1 - a)
def seen2 (n : Nat) (A : List Int) : List Int := (cols n).filter fun c => !has A c
def rnd (n far k : Nat) : List Int := sortS ((List.range k).map fun s : Nat => ((far : Int) + s) % n + 1)
/-- all that is finite -/
def fin1 (n k : Nat) : Bool := (ch n k).all fun A => (ch n k).all fun B => (P n A B == !q0 n (lineOf n A B)) && (P n A B == P n B A)
def fin2 (n k : Nat) : Bool := (ch n k).all fun A => (ch n (n - k)).contains (seen2 n A) && ((ch n k).contains (seen1 n A) && (List.range n).all fun far => (ch n k).contains (seen0 n far A))
def fin3 (n k : Nat) : Bool := (ch n k).all fun A => (ch n k).all fun B => (P n (seen2 n A) (seen2 n B) == P n A B) && (P n (seen1 n A) (seen1 n B) == P n A B) && (List.range n).all fun far => P n (seen0 n far A) (seen0 n far B) == P n A B
def fin4 (n k : Nat) : Bool := (List.range n).all fun far => (ch n k).contains (rnd n far k) && (ch n k).all fun B => P n (rnd n far k) B
def fin5 (n k : Nat) : Bool := isV (.lst ((ch n k).map tupI)) (callN Gd tb 0 7 2 ([.int n, .int k].map .dat))
def nks : List (Nat × Nat) := (List.range 6).flatMap fun n => (List.range (n + 2)).map fun k => (n + 1, k)
theorem okf1 : (nks.all fun p => fin1 p.1 p.2) = true := by decide +kernel
theorem okf2 : (nks.all fun p => fin2 p.1 p.2) = true := by decide +kernel
theorem okf4 : (nks.all fun p => fin4 p.1 p.2) = true := by decide +kernel
theorem okf5 : (nks.all fun p => fin5 p.1 p.2) = true := by decide +kernel
theorem okf3 : (nks.all fun p => fin3 p.1 p.2) = true := by decide +kernel
end T
end MP

namespace MP
namespace T
open PySem L2 X
theorem nk_mem {n k : Nat} (h0 : 0 < n) (hn : n ≤ 6) (hk : k ≤ n) : (n, k) ∈ nks := by
  unfold nks
  rw [List.mem_flatMap]
  exact ⟨n - 1, List.mem_range.mpr (by omega), List.mem_map.mpr ⟨k, List.mem_range.mpr (by omega), by rw [Nat.sub_add_cancel h0]⟩⟩
section
variable {n k : Nat} (h0 : 0 < n) (hn : n ≤ 6) (hk : k ≤ n)
include h0 hn hk
theorem g1 {A B : List Int} (hA : A ∈ ch n k) (hB : B ∈ ch n k) : P n A B = (!q0 n (lineOf n A B)) ∧ P n A B = P n B A := by
  have h := List.all_eq_true.mp okf1 _ (nk_mem h0 hn hk)
  unfold fin1 at h
  have := List.all_eq_true.mp (List.all_eq_true.mp h A hA) B hB
  simpa using this
theorem g2 {A : List Int} (hA : A ∈ ch n k) : seen2 n A ∈ ch n (n - k) ∧ seen1 n A ∈ ch n k ∧ ∀ far, far < n → seen0 n far A ∈ ch n k := by
  have h := List.all_eq_true.mp okf2 _ (nk_mem h0 hn hk)
  unfold fin2 at h
  have := List.all_eq_true.mp h A hA
  simp only [Bool.and_eq_true, List.contains_iff_mem] at this
  exact ⟨this.1, this.2.1, fun far hf => by simpa using List.all_eq_true.mp this.2.2 far (List.mem_range.mpr hf)⟩
theorem g3 {A B : List Int} (hA : A ∈ ch n k) (hB : B ∈ ch n k) : P n (seen2 n A) (seen2 n B) = P n A B ∧ P n (seen1 n A) (seen1 n B) = P n A B ∧ ∀ far, far < n → P n (seen0 n far A) (seen0 n far B) = P n A B := by
  have h := List.all_eq_true.mp okf3 _ (nk_mem h0 hn hk)
  unfold fin3 at h
  have := List.all_eq_true.mp (List.all_eq_true.mp h A hA) B hB
  simp only [Bool.and_eq_true, beq_iff_eq] at this
  exact ⟨this.1.1, this.1.2, fun far hf => by simpa using List.all_eq_true.mp this.2 far (List.mem_range.mpr hf)⟩
theorem g4 {far : Nat} (hf : far < n) : rnd n far k ∈ ch n k ∧ ∀ B ∈ ch n k, P n (rnd n far k) B = true := by
  have h := List.all_eq_true.mp okf4 _ (nk_mem h0 hn hk)
  unfold fin4 at h
  have := List.all_eq_true.mp h far (List.mem_range.mpr hf)
  simp only [Bool.and_eq_true, List.contains_iff_mem] at this
  exact ⟨this.1, fun B hB => List.all_eq_true.mp this.2 B hB⟩
theorem g5 : Ans (callN Gd tb 0 7) 2 [.int n, .int k] (.val (.lst ((ch n k).map tupI))) := by
  have h := List.all_eq_true.mp okf5 _ (nk_mem h0 hn hk)
  exact ans_isV h
/-- what is told -/
theorem told {A B : List Int} (hA : A ∈ ch n k) (hB : B ∈ ch n k) : Ans (callN Gd tb 0 7) 8 [tupI A, tupI B, .int n] (.val (.bl (P n A B))) := by
  have a6 : ∀ A B : List Int, Ans (callN Gd tb 0 5) 6 [tupI A, tupI B, .int n] (.val (.int (turns (mk n A B)).length)) := fun A B => ans_run (d := f6) rfl (ans6 n hn A B)
  have a7 : ∀ A B : List Int, Ans (callN Gd tb 0 6) 7 [tupI A, tupI B, .int n] (.val (.bl (P n A B))) := fun A B => ans_run (d := f7) rfl (ans7 n A B (a6 A B))
  refine ans_run (d := f8) rfl (ans8 n A B (P n A B) (a7 A B) ?_)
  rw [(g1 h0 hn hk hA hB).2]
  exact a7 B A
theorem due {A B : List Int} (hA : A ∈ ch n k) (hB : B ∈ ch n k) : Ans (callN Gd tb 0 7) 5 [tupI A, tupI B, .int n] (.val (.bl (P n A B))) := by
  have := ans_run (G := Gd) (F := 0) (T := tb) (k := 6) (d := f5) (j := 5) rfl (ans5 (n := n) (A := A) (B := B) hn)
  rw [← (g1 h0 hn hk hA hB).1] at this
  exact this
end
def seen (way far n : Nat) (A : List Int) : List Int := if way = 0 then seen0 n far A else if way = 1 then seen1 n A else seen2 n A
theorem evC_nil {C : CallS} : evC Gd C [] = fun l => some (true, l) := by funext l; rw [evC]
theorem srt {xs : List Int} : ap1 .sorted (.lst (xs.map D.int)) = some (.new ((sortS xs).map D.int)) := by
  simp only [ap1, ints_map, Option.map_some]
theorem ans9 {C : CallS} {F : Nat} (n far way : Nat) (h0 : 0 < n) (hn : n ≤ 6) (hw : way < 3) (A : List Int) (hA : A.length ≤ 6) : runFD Gd C F f9 ([.int way, .int far, tupI A, .int n].map .dat) = some (.val (tupI (seen way far n A)), [.int way, .int far, tupI A, .int n].map .dat) := by
  have hn0 : (0 : Int) < n := by omega
  have b6 : 6 ≤ big := by decide
  have cA : (A.map D.int).length ≤ big := by rw [List.length_map]; omega
  have s1 : small ((n : Int) + 1) = true := small_of (by omega) (by omega)
  have e0 : ((n : Int) + 1 - 1).toNat = n := by omega
  have c1 : ((cols n).map D.int).length ≤ big := by rw [List.length_map, show (cols n).length = n by simp [cols]]; omega
  have iA : evI Gd C (.tpl (.r 2)) [.dat (.int way), .dat (.int far), .dat (tupI A), .dat (.int n), .none] = some (A.map D.int, [.dat (.int way), .dat (.int far), .dat (tupI A), .dat (.int n), .none]) := X.i_tpl (e_r0 rfl) rfl
  have k0 := ev_lc_at (G := Gd) (C := C) [4] (.v 4) (.tpl (.r 2)) [] (.o2 .add (.o2 .mod (.o2 .add (.o2 .sub (.r 4) (.c (.int 1))) (.r 1)) (.r 3)) (.c (.int 1))) [.dat (.int way), .dat (.int far), .dat (tupI A), .dat (.int n), .none] _ iA rfl cA
    (by rw [evC_nil]; exact lc_map (f := fun d => .int ((unI d - 1 + far) % n + 1)) (A.map D.int) fun d hd => by
          obtain ⟨i, hi, rfl⟩ := List.mem_map.mp hd
          exact ⟨[.dat (.int way), .dat (.int far), .dat (tupI A), .dat (.int n), .dat (.int i)], _, _, rfl, e_p2 (e_p2 (e_p2 (e_p2 (e_r0 rfl) e_k rfl) (e_r0 rfl) rfl) (e_r0 rfl) (by simp only [ap2, if_pos hn0]; rfl)) e_k rfl, rfl, rfl⟩) rfl
  have k1 := ev_lc_at (G := Gd) (C := C) [4] (.v 4) (.tpl (.r 2)) [] (.o2 .sub (.o2 .add (.r 3) (.c (.int 1))) (.r 4)) [.dat (.int way), .dat (.int far), .dat (tupI A), .dat (.int n), .none] _ iA rfl cA
    (by rw [evC_nil]; exact lc_map (f := fun d => .int (n + 1 - unI d)) (A.map D.int) fun d hd => by
          obtain ⟨i, hi, rfl⟩ := List.mem_map.mp hd
          exact ⟨[.dat (.int way), .dat (.int far), .dat (tupI A), .dat (.int n), .dat (.int i)], _, _, rfl, e_p2 (e_p2 (e_r0 rfl) e_k rfl) (e_r0 rfl) rfl, rfl, rfl⟩) rfl
  have iC : evI Gd C (.rng2 (.c (.int 1)) (.o2 .add (.r 3) (.c (.int 1)))) [.dat (.int way), .dat (.int far), .dat (tupI A), .dat (.int n), .none] = some ((cols n).map .int, [.dat (.int way), .dat (.int far), .dat (tupI A), .dat (.int n), .none]) := by
    have := i_r2 (G := Gd) (C := C) (a := .c (.int 1)) (b := .o2 .add (.r 3) (.c (.int 1))) (loc := [.dat (.int way), .dat (.int far), .dat (tupI A), .dat (.int n), .none]) (m := 1) (n := n + 1) e_k (e_p2 (e_r0 rfl) e_k rfl) (by decide) s1
    rw [this, e0, rng_cols]
  have k2 := ev_lc_at (G := Gd) (C := C) [4] (.v 4) (.rng2 (.c (.int 1)) (.o2 .add (.r 3) (.c (.int 1)))) [.o2 .notin (.r 4) (.r 2)] (.r 4) [.dat (.int way), .dat (.int far), .dat (tupI A), .dat (.int n), .none] _ iC rfl c1
    (lc_filter (q := fun d => !has A (unI d)) (f := id) ((cols n).map D.int) fun d hd => by
          obtain ⟨i, hi, rfl⟩ := List.mem_map.mp hd
          refine ⟨[.dat (.int way), .dat (.int far), .dat (tupI A), .dat (.int n), .dat (.int i)], [.dat (.int way), .dat (.int far), .dat (tupI A), .dat (.int n), .dat (.int i)], rfl, evC_one (e_p2 (e_r0 rfl) (e_r0 rfl) ?_), fun _ => rfl, fun _ => ⟨_, _, e_r0 rfl, rfl, rfl⟩⟩
          simp only [ap2, tupI, plain_int, plains_int, Bool.and_self, if_true]
          rw [any_int]; rfl) rfl
  have t0 : ∀ b, decide (way = 0) = b → evT Gd C (.o2 .eq (.r 0) (.c (.int 0))) [.dat (.int way), .dat (.int far), .dat (tupI A), .dat (.int n), .none] = some (b, [.dat (.int way), .dat (.int far), .dat (tupI A), .dat (.int n), .none]) := fun b hb => X.t_bl (e_p2 (e_r0 rfl) e_k (by
    simp only [ap2, plain_int, Bool.and_self, if_true, D.beq, ← hb]
    rcases way with _ | _ | _ | _ <;> first | rfl | omega))
  have t1 : ∀ b, decide (way = 1) = b → evT Gd C (.o2 .eq (.r 0) (.c (.int 1))) [.dat (.int way), .dat (.int far), .dat (tupI A), .dat (.int n), .none] = some (b, [.dat (.int way), .dat (.int far), .dat (tupI A), .dat (.int n), .none]) := fun b hb => X.t_bl (e_p2 (e_r0 rfl) e_k (by
    simp only [ap2, plain_int, Bool.and_self, if_true, D.beq, ← hb]
    rcases way with _ | _ | _ | _ <;> first | rfl | omega))
  rw [List.map_map] at k0 k1
  by_cases w0 : way = 0
  · rw [show seen way far n A = seen0 n far A from if_pos w0]
    refine run_rt rfl (ss_rt (X.s_T (t0 true (decide_eq_true w0)) (ss_rt (s_retV (e_n1 (ds := (seen0 n far A).map D.int) (e_n1 k0 ?_) rfl))))) rfl
    rw [show A.map ((fun d => D.int ((unI d - 1 + far) % n + 1)) ∘ D.int) = (A.map fun a : Int => (a - 1 + far) % n + 1).map D.int by rw [List.map_map]; rfl, srt]
    rfl
  · by_cases w1 : way = 1
    · rw [show seen way far n A = seen1 n A from (if_neg w0).trans (if_pos w1)]
      refine run_rt rfl (ss_nx (X.s_F (t0 false (decide_eq_false w0)) ss_nil) (ss_rt (X.s_T (t1 true (decide_eq_true w1)) (ss_rt (s_retV (e_n1 (ds := (seen1 n A).map D.int) (e_n1 k1 ?_) rfl)))))) rfl
      rw [show A.map ((fun d => D.int (n + 1 - unI d)) ∘ D.int) = (A.map fun a : Int => (n : Int) + 1 - a).map D.int by rw [List.map_map]; rfl, srt]
      rfl
    · rw [show seen way far n A = seen2 n A from (if_neg w0).trans (if_neg w1)]
      rw [List.map_id, List.filter_map] at k2
      exact run_rt rfl (ss_nx (X.s_F (t0 false (decide_eq_false w0)) ss_nil) (ss_nx (X.s_F (t1 false (decide_eq_false w1)) ss_nil) (ss_rt (s_retV (e_n1 k2 rfl))))) rfl
end T
end MP

namespace MP
namespace T
open PySem L2 X
theorem subs_len : ∀ (xs : List Int) (k : Nat) (A : List Int), A ∈ subs xs k → A.length = k
  | xs, 0, A, h => by
    have : A = [] := by cases xs <;> simpa [subs] using h
    rw [this]; rfl
  | [], k + 1, A, h => by simp [subs] at h
  | x :: xs, k + 1, A, h => by
    simp only [subs, List.mem_append, List.mem_map] at h
    rcases h with ⟨B, hB, rfl⟩ | h
    · simp [subs_len xs k B hB]
    · exact subs_len xs (k + 1) A h
abbrev LA (ns : List Int) (c : D) (w : List D) (n k : Nat) (A : List Int) (far : Nat) (s8 s9 s10 s11 s12 : Slot) : Loc :=
  [.scr ns, .dat c, .own false w, .dat (.int n), .dat (.int k), .dat (.lst ((ch n k).map tupI)), .dat (tupI A), .dat (.int far), s8, s9, s10, s11, s12]
def inn : List MS := [.set (.v 9) (.call 5 [.r 6, .r 8, .r 3]), .ite (.o2 .ne (.call 8 [.r 6, .r 8, .r 3]) (.r 9)) [.ret (.c (.bl false))] [], .loop (.v 10) (.rng1 (.c (.int 3))) [.ite (.o2 .ne (.call 8 [.call 9 [.r 10, .r 7, .r 6, .r 3], .call 9 [.r 10, .r 7, .r 8, .r 3], .r 3]) (.r 9)) [.ret (.c (.bl false))] []], .set (.v 11) (.o1 .tuple (.o1 .sorted (.lc [12] (.v 12) (.rng1 (.r 4)) [] (.o2 .add (.o2 .mod (.o2 .add (.r 7) (.r 12)) (.r 3)) (.c (.int 1)))))), .ite (.o2 .isnot (.call 8 [.r 11, .r 8, .r 3]) (.c (.bl true))) [.ret (.c (.bl false))] []]
section
variable {n k : Nat} (h0 : 0 < n) (hn : n ≤ 6) (hk : k ≤ n)
include h0 hn hk
theorem seen_mem {A : List Int} {far way : Nat} (hf : far < n) (hw : way < 3) (hA : A ∈ ch n k) : ∃ k', k' ≤ n ∧ ∀ B ∈ ch n k, seen way far n B ∈ ch n k' := by
  rcases way with _ | _ | _ | _
  · exact ⟨k, hk, fun B hB => (g2 h0 hn hk hB).2.2 far hf⟩
  · exact ⟨k, hk, fun B hB => (g2 h0 hn hk hB).2.1⟩
  · exact ⟨n - k, by omega, fun B hB => (g2 h0 hn hk hB).1⟩
  · omega
theorem seen_P {A B : List Int} {far way : Nat} (hf : far < n) (hw : way < 3) (hA : A ∈ ch n k) (hB : B ∈ ch n k) : P n (seen way far n A) (seen way far n B) = P n A B := by
  rcases way with _ | _ | _ | _
  · exact (g3 h0 hn hk hA hB).2.2 far hf
  · exact (g3 h0 hn hk hA hB).2.1
  · exact (g3 h0 hn hk hA hB).1
  · omega
theorem inner {F : Nat} {ns : List Int} {c : D} {w : List D} {A B : List Int} {far : Nat} (hA : A ∈ ch n k) (hB : B ∈ ch n k) (hf : far < n) (s9 s10 s11 s12 : Slot) (q9 : fdS s9) (q10 : fdS s10) (q11 : fdS s11) (q12 : fdS s12) :
    ∃ t10 t11, fdS t10 ∧ fdS t11 ∧ sxs Gd (callN Gd tb 0 7) F inn (LA ns c w n k A far (.dat (tupI B)) s9 s10 s11 s12) = some (.nx (LA ns c w n k A far (.dat (tupI B)) (.dat (.bl (P n A B))) t10 t11 s12)) := by
  have ne0 : ∀ b : Bool, ap2 .ne (.bl b) (.bl b) = some (.val (.bl false)) := fun b => by cases b <;> rfl
  have a9 : ∀ (way : Nat), way < 3 → ∀ B ∈ ch n k, Ans (callN Gd tb 0 7) 9 [.int way, .int far, tupI B, .int n] (.val (tupI (seen way far n B))) := fun way hw B hB =>
    ans_run (d := f9) rfl (ans9 n far way h0 hn hw B (by rw [subs_len _ _ _ hB]; omega))
  -- the ways
  have lp : ∃ l2, forRun (.v 10) (sxs Gd (callN Gd tb 0 7) F [.ite (.o2 .ne (.call 8 [.call 9 [.r 10, .r 7, .r 6, .r 3], .call 9 [.r 10, .r 7, .r 8, .r 3], .r 3]) (.r 9)) [.ret (.c (.bl false))] []]) (rngL 0 (3 : Int).toNat) (LA ns c w n k A far (.dat (tupI B)) (.dat (.bl (P n A B))) s10 s11 s12) = some (.nx l2) ∧ ∃ s10, fdS s10 ∧ l2 = LA ns c w n k A far (.dat (tupI B)) (.dat (.bl (P n A B))) s10 s11 s12 := by
    refine for_inv (M := fun d => ∃ way : Nat, way < 3 ∧ d = .int way) (I := fun l2 => ∃ s10, fdS s10 ∧ l2 = LA ns c w n k A far (.dat (tupI B)) (.dat (.bl (P n A B))) s10 s11 s12) (fun d loc hd hI => ?_) _ _ (fun d hd => ?_) ⟨s10, q10, rfl⟩
    · obtain ⟨way, hw, rfl⟩ := hd
      obtain ⟨s, hs, rfl⟩ := hI
      obtain ⟨k', hk', hm⟩ := seen_mem h0 hn hk hf hw hA
      have ht := told h0 hn hk' (hm A hA) (hm B hB)
      rw [seen_P h0 hn hk hf hw hA hB] at ht
      refine ⟨_, _, bind_v ⟨s, rfl, hs⟩, .inl (ss_nx (X.s_F (X.t_bl (e_p2 (e_callD (ds := [tupI (seen way far n A), tupI (seen way far n B), .int n]) (es_p (e_callD (ds := [.int way, .int far, tupI A, .int n]) (es_p (e_r0 rfl) (es_p (e_r0 rfl) (es_p (e_r0 rfl) (es_p (e_r0 rfl) es_nil)))) (a9 way hw A hA)) (es_p (e_callD (ds := [.int way, .int far, tupI B, .int n]) (es_p (e_r0 rfl) (es_p (e_r0 rfl) (es_p (e_r0 rfl) (es_p (e_r0 rfl) es_nil)))) (a9 way hw B hB)) (es_p (e_r0 rfl) es_nil))) ht) (e_r0 rfl) (ne0 _))) ss_nil) ss_nil), .dat (.int way), .inr ⟨_, rfl⟩, rfl⟩
    · rw [rngL_eq] at hd
      obtain ⟨i, hi, rfl⟩ := List.mem_map.mp hd
      have := List.mem_range.mp hi
      exact ⟨i, this, by rw [Int.zero_add]⟩
  obtain ⟨l2, lp1, s10', q10', rfl⟩ := lp
  -- the round one
  have hn0 : (0 : Int) < n := by omega
  have b6 : 6 ≤ big := by decide
  have ik : evI Gd (callN Gd tb 0 7) (.rng1 (.r 4)) (LA ns c w n k A far (.dat (tupI B)) (.dat (.bl (P n A B))) s10' s11 s12) = some ((List.range k).map fun i : Nat => D.int i, LA ns c w n k A far (.dat (tupI B)) (.dat (.bl (P n A B))) s10' s11 s12) := by
    have := i_r1 (G := Gd) (C := callN Gd tb 0 7) (a := .r 4) (loc := LA ns c w n k A far (.dat (tupI B)) (.dat (.bl (P n A B))) s10' s11 s12) (n := k) (e_r0 rfl) (small_of (by omega) (by omega))
    rw [this, rngL_eq]; simp
  have kc := ev_lc_at (G := Gd) (C := callN Gd tb 0 7) [12] (.v 12) (.rng1 (.r 4)) [] (.o2 .add (.o2 .mod (.o2 .add (.r 7) (.r 12)) (.r 3)) (.c (.int 1))) (LA ns c w n k A far (.dat (tupI B)) (.dat (.bl (P n A B))) s10' s11 s12) _ ik
    (by rw [List.all_cons, freeD_fd ⟨s12, rfl, q12⟩]; rfl) (by rw [List.length_map, List.length_range]; omega)
    (by rw [evC_nil]; exact lc_map (f := fun d => .int ((far + unI d) % n + 1)) _ fun d hd => by
          obtain ⟨i, hi, rfl⟩ := List.mem_map.mp hd
          exact ⟨LA ns c w n k A far (.dat (tupI B)) (.dat (.bl (P n A B))) s10' s11 (.dat (.int i)), _, _, rfl, e_p2 (e_p2 (e_p2 (e_r0 rfl) (e_r0 rfl) rfl) (e_r0 rfl) (by simp only [ap2, if_pos hn0]; rfl)) e_k rfl, rfl, rfl⟩) rfl
  have hr := g4 h0 hn hk hf
  have ht := told h0 hn hk hr.1 hB
  rw [hr.2 B hB] at ht
  have es : ap1 .sorted (.lst (((List.range k).map fun i : Nat => D.int i).map fun d => D.int ((far + unI d) % n + 1))) = some (.new ((rnd n far k).map D.int)) := by
    rw [show (((List.range k).map fun i : Nat => D.int i).map fun d => D.int ((far + unI d) % n + 1)) = ((List.range k).map fun s : Nat => ((far : Int) + s) % n + 1).map D.int by rw [List.map_map, List.map_map]; rfl, srt]
    rfl
  refine ⟨s10', .dat (tupI (rnd n far k)), q10', .inr ⟨_, rfl⟩, ?_⟩
  refine ss_nx (X.s_set (e_callD (ds := [tupI A, tupI B, .int n]) (es_p (e_r0 rfl) (es_p (e_r0 rfl) (es_p (e_r0 rfl) es_nil))) (due h0 hn hk hA hB)) rfl (bind_v ⟨s9, rfl, q9⟩)) ?_
  refine ss_nx (X.s_F (X.t_bl (e_p2 (e_callD (ds := [tupI A, tupI B, .int n]) (es_p (e_r0 rfl) (es_p (e_r0 rfl) (es_p (e_r0 rfl) es_nil))) (told h0 hn hk hA hB)) (e_r0 rfl) (ne0 _))) ss_nil) ?_
  refine ss_nx (X.s_loop (i_r1 e_k (by decide)) lp1) ?_
  refine ss_nx (X.s_set (e_n1 (ds := (rnd n far k).map D.int) (e_n1 kc es) rfl) rfl (bind_v ⟨s11, rfl, q11⟩)) ?_
  exact ss_nx (X.s_F (X.t_bl (e_p2 (e_callD (ds := [tupI (rnd n far k), tupI B, .int n]) (es_p (e_r0 rfl) (es_p (e_r0 rfl) (es_p (e_r0 rfl) es_nil))) ht) e_k rfl)) ss_nil) ss_nil
end
/-! the law -/
theorem draws7 : Draws (callN Gd tb 0 7) 1 := draws_of (T := tb) rfl
end T
end MP

namespace MP
namespace T
open PySem L2 X
def bodyL : List MS := [.own 2 (.call 0 [.r 1]), .set (.v 3) (.o2 .add (.c (.int 1)) (.call 3 [.r 2, .lst [.c (.int 5), .c (.int 5), .c (.int 4), .call 1 [.r 2, .c (.int 6)]]])), .set (.v 4) (.call 1 [.r 2, .o2 .add (.r 3) (.c (.int 1))]), .set (.v 5) (.call 2 [.r 3, .r 4]), .set (.v 6) (.call 3 [.r 2, .r 5]), .set (.v 7) (.call 1 [.r 2, .r 3]), .loop (.v 8) (.seq (.r 5)) inn]
theorem f10_body : f10.body = [.loop (.v 1) (.seq (cellsM 4 8)) bodyL, .ret (.c (.bl true))] := rfl
def IL (ns : List Int) (loc : Loc) : Prop := ∃ s1 s2 s3 s4 s5 s6 s7 s8 s9 s10 s11 s12, fdS s1 ∧ frS s2 ∧ (fdS s3 ∧ fdS s4 ∧ fdS s5 ∧ fdS s6 ∧ fdS s7) ∧ (fdS s8 ∧ fdS s9 ∧ fdS s10 ∧ fdS s11 ∧ fdS s12) ∧ loc = [.scr ns, s1, s2, s3, s4, s5, s6, s7, s8, s9, s10, s11, s12]
theorem ones7 : Ones (callN Gd tb 0 7) 3 := ones_of (T := tb) (k := 6) (i := 1) rfl (draws_of (T := tb) rfl)
theorem ch_pos (n k : Nat) (h0 : 0 < n) (hn : n ≤ 6) (hk : k ≤ n) : ch n k ≠ [] ∧ (ch n k).length < 100 := by
  have h : (nks.all fun p => !(ch p.1 p.2).isEmpty && decide ((ch p.1 p.2).length < 100)) = true := by decide +kernel
  have := List.all_eq_true.mp h _ (nk_mem h0 hn hk)
  simp only [Bool.and_eq_true, Bool.not_eq_true', decide_eq_true_eq] at this
  exact ⟨fun e => by rw [e] at this; simp at this, this.2⟩
theorem step {F : Nat} {ns : List Int} {c : Int} {loc : Loc} (h : IL ns loc) : ∃ l1 l2, bindP (.v 1) (.int c) loc = some l1 ∧ (sxs Gd (callN Gd tb 0 7) F bodyL l1 = some (.nx l2) ∨ sxs Gd (callN Gd tb 0 7) F bodyL l1 = some (.ct l2)) ∧ IL ns l2 := by
  obtain ⟨s1, s2, s3, s4, s5, s6, s7, s8, s9, s10, s11, s12, p1, p2, ⟨p3, p4, p5, p6, p7⟩, ⟨p8, p9, p10, p11, p12⟩, rfl⟩ := h
  obtain ⟨w0, hw0, iw0⟩ := wellA_ok (G := Gd) (C := callN Gd tb 0 6) (F := 0) c
  have hw : Ans (callN Gd tb 0 7) 0 [.int c] (.new w0) := ans_run (d := wellA) rfl hw0
  -- the size
  obtain ⟨r, w1, e1, r0, r1, iw1⟩ := draws7.at_ (i := 2) (loc := [.scr ns, .dat (.int c), .own false w0, s3, s4, s5, s6, s7, s8, s9, s10, s11, s12]) (n := 6) rfl iw0 (by decide) (by decide) (by decide)
  obtain ⟨d, w2, e2, hd, iw2⟩ := ones7.at_ (i := 2) (loc := [.scr ns, .dat (.int c), .own false w1, s3, s4, s5, s6, s7, s8, s9, s10, s11, s12]) (xs := [.int 5, .int 5, .int 4, .int r]) rfl iw1 (by simp) (by simp) (by decide)
  obtain ⟨n, hn0, hn6, rfl⟩ : ∃ n : Nat, 0 < n ∧ n ≤ 6 ∧ d = .int ((n : Int) - 1) := by
    simp only [List.mem_cons, List.mem_nil_iff, or_false] at hd
    rcases hd with rfl | rfl | rfl | rfl
    · exact ⟨6, by decide, by decide, rfl⟩
    · exact ⟨6, by decide, by decide, rfl⟩
    · exact ⟨5, by decide, by decide, rfl⟩
    · exact ⟨(r + 1).toNat, by omega, by omega, by congr 1; omega⟩
  -- how many
  obtain ⟨k', w3, e3, k0, k1, iw3⟩ := draws7.at_ (i := 2) (loc := [.scr ns, .dat (.int c), .own false w2, .dat (.int n), s4, s5, s6, s7, s8, s9, s10, s11, s12]) (n := n + 1) rfl iw2 (by omega) (by omega) (by decide)
  obtain ⟨k, hk, rfl⟩ : ∃ k : Nat, k ≤ n ∧ k' = k := ⟨k'.toNat, by omega, by omega⟩
  have hc := ch_pos n k hn0 hn6 hk
  obtain ⟨d1, w4, e4, hd1, iw4⟩ := ones7.at_ (i := 2) (loc := [.scr ns, .dat (.int c), .own false w3, .dat (.int n), .dat (.int k), .dat (.lst ((ch n k).map tupI)), s6, s7, s8, s9, s10, s11, s12]) (xs := (ch n k).map tupI) rfl iw3 (by simpa using hc.1) (by rw [List.length_map]; omega) (by decide)
  obtain ⟨A, hA, rfl⟩ := List.mem_map.mp hd1
  obtain ⟨f', w5, e5, f0, f1', iw5⟩ := draws7.at_ (i := 2) (loc := [.scr ns, .dat (.int c), .own false w4, .dat (.int n), .dat (.int k), .dat (.lst ((ch n k).map tupI)), .dat (tupI A), s7, s8, s9, s10, s11, s12]) (n := n) rfl iw4 (by omega) (by omega) (by decide)
  obtain ⟨far, hf, rfl⟩ : ∃ far : Nat, far < n ∧ f' = far := ⟨f'.toNat, by omega, by omega⟩
  have lp : ∃ l2, forRun (.v 8) (sxs Gd (callN Gd tb 0 7) F inn) ((ch n k).map tupI) (LA ns (.int c) w5 n k A far s8 s9 s10 s11 s12) = some (.nx l2) ∧ ∃ s8 s9 s10 s11 s12, fdS s8 ∧ fdS s9 ∧ fdS s10 ∧ fdS s11 ∧ fdS s12 ∧ l2 = LA ns (.int c) w5 n k A far s8 s9 s10 s11 s12 := by
    refine for_inv (M := fun d => ∃ B ∈ ch n k, d = tupI B) (I := fun l2 => ∃ s8 s9 s10 s11 s12, fdS s8 ∧ fdS s9 ∧ fdS s10 ∧ fdS s11 ∧ fdS s12 ∧ l2 = LA ns (.int c) w5 n k A far s8 s9 s10 s11 s12) (fun d loc hd hI => ?_) _ _ (fun d hd => ?_) ⟨s8, s9, s10, s11, s12, p8, p9, p10, p11, p12, rfl⟩
    · obtain ⟨B, hB, rfl⟩ := hd
      obtain ⟨t8, t9, t10, t11, t12, z8, z9, z10, z11, z12, rfl⟩ := hI
      obtain ⟨u10, u11, y10, y11, e⟩ := inner (F := F) (ns := ns) (c := .int c) (w := w5) hn0 hn6 hk hA hB hf t9 t10 t11 t12 z9 z10 z11 z12
      exact ⟨_, _, bind_v ⟨t8, rfl, z8⟩, .inl e, _, _, _, _, _, .inr ⟨_, rfl⟩, .inr ⟨_, rfl⟩, y10, y11, z12, rfl⟩
    · obtain ⟨B, hB, rfl⟩ := List.mem_map.mp hd
      exact ⟨B, hB, rfl⟩
  obtain ⟨l2, lp1, t8, t9, t10, t11, t12, z8, z9, z10, z11, z12, rfl⟩ := lp
  refine ⟨_, LA ns (.int c) w5 n k A far t8 t9 t10 t11 t12, bind_v ⟨s1, rfl, p1⟩, .inl ?_, _, _, _, _, _, _, _, _, _, _, _, _, .inr ⟨_, rfl⟩, .inr ⟨_, rfl⟩, ⟨.inr ⟨_, rfl⟩, .inr ⟨_, rfl⟩, .inr ⟨_, rfl⟩, .inr ⟨_, rfl⟩, .inr ⟨_, rfl⟩⟩, ⟨z8, z9, z10, z11, z12⟩, rfl⟩
  refine ss_nx (X.s_own (e_callD (ds := [.int c]) (es_p (e_r0 rfl) es_nil) hw) (put_fr ⟨s2, rfl, p2⟩)) ?_
  refine ss_nx (X.s_set (d := .int n) (l1 := [.scr ns, .dat (.int c), .own false w2, s3, s4, s5, s6, s7, s8, s9, s10, s11, s12]) (e_p2 (d' := .int ((n : Int) - 1)) e_k (e_call (es_cons (e_rO (ds := w0) (b := false) rfl) (es_cons (X.e_lst (es_p e_k (es_p e_k (es_p e_k (es_p (e_call (es_cons (e_rO (ds := w0) (b := false) rfl) (es_p e_k es_nil)) e1) es_nil)))) (show List.mapM toVal [R.val (.int 5), .val (.int 5), .val (.int 4), .val (.int r)] = some [.int 5, .int 5, .int 4, .int r] from rfl)) es_nil)) e2) (r := .val (.int n)) (by simp only [ap2, Option.some.injEq, R.val.injEq, D.int.injEq]; omega)) rfl (bind_v ⟨s3, rfl, p3⟩)) ?_
  refine ss_nx (X.s_set (e_call (es_cons (e_rO (ds := w2) (b := false) rfl) (es_p (e_p2 (e_r0 rfl) e_k rfl) es_nil)) e3) rfl (bind_v ⟨s4, rfl, p4⟩)) ?_
  refine ss_nx (X.s_set (e_callD (ds := [.int n, .int k]) (es_p (e_r0 rfl) (es_p (e_r0 rfl) es_nil)) (g5 hn0 hn6 hk)) rfl (bind_v ⟨s5, rfl, p5⟩)) ?_
  refine ss_nx (X.s_set (e_call (es_cons (e_rO (ds := w3) (b := false) rfl) (es_p (e_r0 rfl) es_nil)) e4) rfl (bind_v ⟨s6, rfl, p6⟩)) ?_
  refine ss_nx (X.s_set (e_call (es_cons (e_rO (ds := w4) (b := false) rfl) (es_p (e_r0 rfl) es_nil)) e5) rfl (bind_v ⟨s7, rfl, p7⟩)) ?_
  exact ss_nx (X.s_loop (X.i_seq (e_r0 rfl) rfl) lp1) ss_nil
theorem law_true (ns : List Int) (hl : ns.length ≤ 63) : ∃ a', callN Gd (es.map (·.d)) 0 depth 10 [.scr ns] = some (.val (.bl true), a') := by
  obtain ⟨items, e1, e2⟩ := cells_ok (G := Gd) (T := tb) (F := 0) (kk := 6) (ic := 4) (k := 8) (loc := [.scr ns, .none, .none, .none, .none, .none, .none, .none, .none, .none, .none, .none, .none]) (ns := ns) rfl hl rfl
  obtain ⟨l2, e3, q⟩ := for_inv (p := .v 1) (body := sxs Gd (callN Gd tb 0 7) 0 bodyL) (I := IL ns) (M := fun d => ∃ c, d = .int c) (fun d loc hd hI => by
    obtain ⟨c, rfl⟩ := hd
    exact step hI) items _ e2 ⟨.none, .none, .none, .none, .none, .none, .none, .none, .none, .none, .none, .none, .inl rfl, .inl (.inl rfl), ⟨.inl rfl, .inl rfl, .inl rfl, .inl rfl, .inl rfl⟩, ⟨.inl rfl, .inl rfl, .inl rfl, .inl rfl, .inl rfl⟩, rfl⟩
  obtain ⟨s1, s2, s3, s4, s5, s6, s7, s8, s9, s10, s11, s12, _, _, _, _, rfl⟩ := q
  refine ⟨[.scr ns], ?_⟩
  show callN Gd tb 0 (7 + 1) 10 [.scr ns] = _
  rw [callN_run (d := f10) rfl]
  refine run_rt (l1 := [.scr ns, s1, s2, s3, s4, s5, s6, s7, s8, s9, s10, s11, s12]) rfl ?_ rfl
  rw [f10_body]
  exact ss_nx (X.s_loop e1 e3) (ss_rt (s_retV e_k))
end T
end MP

open PySem PySem.W PySem.Calls PyProof.Rows
theorem PySem.Challenge.cw_rillwise_k81_apart_or_not_holds : PySem.Challenge.rw_rillwise_k81_apart_or_not.Holds := by
  w_on; o_law
  refine HandSHeadRun.head_any (r := MP.T.Rw) (q := view MP.T.Rw.prog [13]) (H := MP.T.hk) (ob := MP.T.obx) (M := 4000) (loose := MP.T.loose)
    (d := HandSHeadRun.topDef MP.T.Rw.prog 13) (kwd := []) MP.T.obx_eq (by kernel_rfl) (fun s => by kernel_rfl) MP.T.run (by kernel_rfl)
    (by kernel_rfl) (by kernel_rfl) (by rfl) (by first | assumption | decide +kernel) (by decide +kernel) ⟨rfl, rfl, rfl, rfl, rfl, by decide +kernel⟩ ?hw ?hc
  case hw => w_witness2
  case hc =>
    refine L2.walk_ofE (l := PySem.Challenge.rw_rillwise_k81_apart_or_not) (n := 63) (k := MP.T.depth) (x := "_law_script") (CX := L2.CX0) rfl (by decide) (by kernel_rfl) ⟨rfl, by decide, by decide⟩ ?F (fun _ _ _ _ z => z)
    intro w mg fa h Y N hm0
    obtain ⟨K, KX, c⟩ := Y
    have hm : mg MP.T.e10.name = some (.ref fa) := by
      have e : (HandSHeadRun.topDef MP.T.Rw.prog 13).name = ("law" : PySem.Str) := by kernel_rfl
      exact (congrArg mg e).symm.trans hm0
    have X := MP.facts_of (ca := fun _ _ => none) (P := ⟨K, MP.T.cas, MP.T.fls⟩) (G := MP.T.Gd) KX N c MP.T.eoks rfl (by decide +kernel) (by decide +kernel) (by intro p hp; cases hp) (by decide +kernel) (by decide +kernel)
    obtain ⟨fd, Fd⟩ := c.def_ 10 (d := MP.T.e10.dd) rfl
    have e1 := hm.symm.trans (He.glo_ok KX N (c.fact 10 (f := .glo "law") rfl))
    cases e1
    exact MP.law_end KX X MP.T.look (j := 10) (e := MP.T.e10) rfl hm rfl (fun F s u => L2.FunD.bindsA (ps := ["_law_script"]) F (fun _ _ _ _ _ _ us hl => match us, hl with | [_], _ => rfl) s [u] rfl) ⟨fd, Fd⟩ MP.T.eo10.sc MP.T.law_true

