import PyProof.Rows.All
import Wide.All
import OpenK.AllK
import Wide.FinOn
import HandS.ForMost
import HandS.Exc
import HandS.IsInst
import HandS.Wide
import HandS.WideBits
import HandS.Small
import HandS.ExcOwn
import HandS.WordsExc
import KE.GoesEnum
import HandS.Zip
import HandS.TryOnly
import PySem.Challenge.RW_sourcestold_k70_digits_and_periods
set_option Elab.async false
set_option linter.all false
set_option maxRecDepth 100000
set_option maxHeartbeats 2000000
/-! DL1: data without a heap; what a heap holds of it; the judgements over data. -/
namespace Dl
open PySem L2

/-- a value without addresses; nothing of it is changed any more -/
inductive D where
  | non | bl (b : Bool) | int (i : Int) | str (x : Str)
  | tup (ds : List D) | lst (ds : List D)
  | ob (c : Nat) (ds : List D)
  | dk (ks : List Key) (ds : List D)
  | fn (a : Addr) | ty (n : String)

/-- the classes of the text: class c stands at ca c, its attributes are cf c -/
structure Wd where
  K : PySem.W.Frag
  ca : Nat → Addr
  cf : Nat → List Str

/-- a list, a tuple that is read away from S, or one of the module -/
def LSq (W : Wd) (S : Addr → Prop) (H : Hp) (a : Addr) (vs : List V) : Prop := (¬ S a ∧ Rd H a (.lst vs)) ∨ SqL W.K (fun _ => none) a vs
def TSq (W : Wd) (S : Addr → Prop) (H : Hp) (a : Addr) (vs : List V) : Prop := (¬ S a ∧ Rd H a (.tup vs)) ∨ SqT W.K (fun _ => none) a vs

mutual
def Rep (W : Wd) (S : Addr → Prop) (H : Hp) : D → V → Prop
  | .non, v => v = .non
  | .bl b, v => v = .bl b
  | .int i, v => v = .int i
  | .str x, v => v = .str x
  | .tup ds, v => ∃ a vs, v = .ref a ∧ TSq W S H a vs ∧ Reps W S H ds vs
  | .lst ds, v => ∃ a vs, v = .ref a ∧ LSq W S H a vs ∧ Reps W S H ds vs
  | .ob c ds, v => ∃ a dx vs, v = .ref a ∧ ¬ S a ∧ H a = some (.ins (W.ca c) dx ((W.cf c).zip vs)) ∧ vs.length = (W.cf c).length ∧ Reps W S H ds vs
  | .dk ks ds, v => ∃ a vs, v = .ref a ∧ ¬ S a ∧ H a = some (.dK (ks.zip vs)) ∧ vs.length = ks.length ∧ Reps W S H ds vs
  | .fn a, v => v = .ref a
  | .ty n, v => v = .ty n
def Reps (W : Wd) (S : Addr → Prop) (H : Hp) : List D → List V → Prop
  | [], vs => vs = []
  | d :: ds, vs => ∃ v r, vs = v :: r ∧ Rep W S H d v ∧ Reps W S H ds r
end

theorem LSq.tr {W : Wd} {S S' : Addr → Prop} {H H' : Hp} {a : Addr} {vs : List V} (h : LSq W S H a vs) (hs : ∀ b, S' b → S b ∨ H b = none) (hk : ∀ b o, ¬ S b → H b = some o → H' b = some o) : LSq W S' H' a vs := by
  rcases h with ⟨n, r⟩ | h
  · refine .inl ⟨fun z => ?_, ?_⟩
    · rcases hs a z with q | q
      · exact n q
      · rcases r with r | ⟨o, r⟩ <;> (rw [q] at r; cases r)
    · rcases r with r | ⟨o, r⟩
      · exact .inl (hk _ _ n r)
      · exact .inr ⟨o, hk _ _ n r⟩
  · exact .inr h
theorem TSq.tr {W : Wd} {S S' : Addr → Prop} {H H' : Hp} {a : Addr} {vs : List V} (h : TSq W S H a vs) (hs : ∀ b, S' b → S b ∨ H b = none) (hk : ∀ b o, ¬ S b → H b = some o → H' b = some o) : TSq W S' H' a vs := by
  rcases h with ⟨n, r⟩ | h
  · refine .inl ⟨fun z => ?_, ?_⟩
    · rcases hs a z with q | q
      · exact n q
      · rcases r with r | ⟨o, r⟩ <;> (rw [q] at r; cases r)
    · rcases r with r | ⟨o, r⟩
      · exact .inl (hk _ _ n r)
      · exact .inr ⟨o, hk _ _ n r⟩
  · exact .inr h
theorem LSq.sq {W : Wd} {S : Addr → Prop} {H : Hp} {a : Addr} {vs : List V} (h : LSq W S H a vs) : SqL W.K H a vs := by
  rcases h with ⟨_, r⟩ | h | h
  · exact .inl r
  · rcases h with h | ⟨_, h⟩ <;> cases h
  · exact .inr h
theorem TSq.sq {W : Wd} {S : Addr → Prop} {H : Hp} {a : Addr} {vs : List V} (h : TSq W S H a vs) : SqT W.K H a vs := by
  rcases h with ⟨_, r⟩ | h | h
  · exact .inl r
  · rcases h with h | ⟨_, h⟩ <;> cases h
  · exact .inr h

mutual
theorem Rep.tr {W : Wd} {S S' : Addr → Prop} {H H' : Hp} (hs : ∀ b, S' b → S b ∨ H b = none) (hk : ∀ b o, ¬ S b → H b = some o → H' b = some o) : ∀ (d : D) (v : V), Rep W S H d v → Rep W S' H' d v
  | .non, v, h => h
  | .bl b, v, h => h
  | .int i, v, h => h
  | .str x, v, h => h
  | .fn a, v, h => h
  | .ty n, v, h => h
  | .tup ds, v, h => by
    obtain ⟨a, vs, e, t, r⟩ := (show ∃ a vs, v = .ref a ∧ TSq W S H a vs ∧ Reps W S H ds vs from h)
    exact ⟨a, vs, e, t.tr hs hk, Reps.tr hs hk ds vs r⟩
  | .lst ds, v, h => by
    obtain ⟨a, vs, e, t, r⟩ := (show ∃ a vs, v = .ref a ∧ LSq W S H a vs ∧ Reps W S H ds vs from h)
    exact ⟨a, vs, e, t.tr hs hk, Reps.tr hs hk ds vs r⟩
  | .ob c ds, v, h => by
    obtain ⟨a, dx, vs, e, n, t, l, r⟩ := (show ∃ a dx vs, v = .ref a ∧ ¬ S a ∧ H a = some (.ins (W.ca c) dx ((W.cf c).zip vs)) ∧ vs.length = (W.cf c).length ∧ Reps W S H ds vs from h)
    refine ⟨a, dx, vs, e, fun z => ?_, hk _ _ n t, l, Reps.tr hs hk ds vs r⟩
    rcases hs a z with q | q
    · exact n q
    · rw [q] at t; cases t
  | .dk ks ds, v, h => by
    obtain ⟨a, vs, e, n, t, l, r⟩ := (show ∃ a vs, v = .ref a ∧ ¬ S a ∧ H a = some (.dK (ks.zip vs)) ∧ vs.length = ks.length ∧ Reps W S H ds vs from h)
    refine ⟨a, vs, e, fun z => ?_, hk _ _ n t, l, Reps.tr hs hk ds vs r⟩
    rcases hs a z with q | q
    · exact n q
    · rw [q] at t; cases t
theorem Reps.tr {W : Wd} {S S' : Addr → Prop} {H H' : Hp} (hs : ∀ b, S' b → S b ∨ H b = none) (hk : ∀ b o, ¬ S b → H b = some o → H' b = some o) : ∀ (ds : List D) (vs : List V), Reps W S H ds vs → Reps W S' H' ds vs
  | [], vs, h => h
  | d :: ds, vs, h => by
    obtain ⟨v, r, e, a, b⟩ := (show ∃ v r, vs = v :: r ∧ Rep W S H d v ∧ Reps W S H ds r from h)
    exact ⟨v, r, e, Rep.tr hs hk d v a, Reps.tr hs hk ds r b⟩
end
section
variable {W : Wd} {S S' : Addr → Prop} {H H' : Hp}
theorem reps_len : ∀ {ds : List D} {vs : List V}, Reps W S H ds vs → vs.length = ds.length
  | [], vs, h => by rw [show vs = [] from h]; rfl
  | d :: ds, vs, h => by
    obtain ⟨v, r, e, a, b⟩ := (show ∃ v r, vs = v :: r ∧ Rep W S H d v ∧ Reps W S H ds r from h)
    rw [e, List.length_cons, List.length_cons, reps_len b]
theorem reps_nil : Reps W S H [] [] := rfl
theorem reps_cons {d : D} {v : V} {ds : List D} {vs : List V} (h : Rep W S H d v) (t : Reps W S H ds vs) : Reps W S H (d :: ds) (v :: vs) := ⟨v, vs, rfl, h, t⟩
theorem reps_app : ∀ {ds es : List D} {vs us : List V}, Reps W S H ds vs → Reps W S H es us → Reps W S H (ds ++ es) (vs ++ us)
  | [], _, vs, _, h, t => by rw [show vs = [] from h]; exact t
  | d :: ds, _, vs, _, h, t => by
    obtain ⟨v, r, e, a, b⟩ := (show ∃ v r, vs = v :: r ∧ Rep W S H d v ∧ Reps W S H ds r from h)
    rw [e]
    exact ⟨v, _, rfl, a, reps_app b t⟩
theorem reps_get : ∀ {ds : List D} {vs : List V} {i : Nat} {d : D}, Reps W S H ds vs → ds[i]? = some d → ∃ v, vs[i]? = some v ∧ Rep W S H d v
  | [], _, _, _, _, h => by simp at h
  | d :: ds, vs, i, x, h, hi => by
    obtain ⟨v, r, e, a, b⟩ := (show ∃ v r, vs = v :: r ∧ Rep W S H d v ∧ Reps W S H ds r from h)
    subst e
    cases i with
    | zero => simp at hi; subst hi; exact ⟨v, rfl, a⟩
    | succ i => exact reps_get (i := i) b (by simpa using hi)
theorem reps_get' : ∀ {ds : List D} {vs : List V} {i : Nat} {v : V}, Reps W S H ds vs → vs[i]? = some v → ∃ d, ds[i]? = some d ∧ Rep W S H d v
  | [], vs, _, _, h, hi => by rw [show vs = [] from h] at hi; simp at hi
  | d :: ds, vs, i, x, h, hi => by
    obtain ⟨v, r, e, a, b⟩ := (show ∃ v r, vs = v :: r ∧ Rep W S H d v ∧ Reps W S H ds r from h)
    subst e
    cases i with
    | zero => simp at hi; subst hi; exact ⟨d, rfl, a⟩
    | succ i => exact reps_get' (i := i) b (by simpa using hi)
theorem reps_set : ∀ {ds : List D} {vs : List V} {d : D} {v : V} (i : Nat), Reps W S H ds vs → Rep W S H d v → Reps W S H (ds.set i d) (vs.set i v)
  | [], vs, _, _, _, h, _ => by rw [show vs = [] from h]; exact rfl
  | d :: ds, vs, x, u, i, h, hx => by
    obtain ⟨v, r, e, a, b⟩ := (show ∃ v r, vs = v :: r ∧ Rep W S H d v ∧ Reps W S H ds r from h)
    subst e
    cases i with
    | zero => exact ⟨u, r, rfl, hx, b⟩
    | succ i => exact ⟨v, _, rfl, a, reps_set i b hx⟩
theorem reps_take : ∀ {ds : List D} {vs : List V} (n : Nat), Reps W S H ds vs → Reps W S H (ds.take n) (vs.take n)
  | [], vs, n, h => by rw [show vs = [] from h]; simp; exact rfl
  | d :: ds, vs, 0, h => by simp; exact rfl
  | d :: ds, vs, n + 1, h => by
    obtain ⟨v, r, e, a, b⟩ := (show ∃ v r, vs = v :: r ∧ Rep W S H d v ∧ Reps W S H ds r from h)
    subst e
    exact ⟨v, _, rfl, a, reps_take n b⟩
theorem reps_drop : ∀ {ds : List D} {vs : List V} (n : Nat), Reps W S H ds vs → Reps W S H (ds.drop n) (vs.drop n)
  | [], vs, n, h => by rw [show vs = [] from h]; simp; exact rfl
  | d :: ds, vs, 0, h => h
  | d :: ds, vs, n + 1, h => by
    obtain ⟨v, r, e, a, b⟩ := (show ∃ v r, vs = v :: r ∧ Rep W S H d v ∧ Reps W S H ds r from h)
    subst e
    exact reps_drop n b
theorem reps_rev : ∀ {ds : List D} {vs : List V}, Reps W S H ds vs → Reps W S H ds.reverse vs.reverse
  | [], vs, h => by rw [show vs = [] from h]; exact rfl
  | d :: ds, vs, h => by
    obtain ⟨v, r, e, a, b⟩ := (show ∃ v r, vs = v :: r ∧ Rep W S H d v ∧ Reps W S H ds r from h)
    subst e
    rw [List.reverse_cons, List.reverse_cons]
    exact reps_app (reps_rev b) (reps_cons a reps_nil)
theorem reps_cut {ds : List D} {vs : List V} (lo hi : Option Int) (h : Reps W S H ds vs) : Reps W S H ((ds.drop (HT.sIx ds.length 0 lo)).take (HT.sIx ds.length ds.length hi - HT.sIx ds.length 0 lo)) (cutV vs lo hi) := by
  unfold cutV
  rw [reps_len h]
  exact reps_take _ (reps_drop _ h)
end

/-! ### the store: things that are changed -/
/-- what may be changed: a list, a dict, an instance; dead: no more -/
inductive MO where
  | l (ds : List D) | k (ks : List Key) (ds : List D) | o (c : Nat) (ds : List D) | dead
def MRep (W : Wd) (S : Addr → Prop) (H : Hp) : MO → List Addr → Prop
  | .l ds, l => ∃ p vs, l = [p] ∧ H p = some (.lst vs) ∧ Reps W S H ds vs
  | .k ks ds, l => ∃ p vs, l = [p] ∧ H p = some (.dK (ks.zip vs)) ∧ vs.length = ks.length ∧ Reps W S H ds vs
  | .o c ds, l => ∃ p dx vs, l = [p] ∧ H p = some (.ins (W.ca c) dx ((W.cf c).zip vs)) ∧ vs.length ≤ (W.cf c).length ∧ Reps W S H ds vs
  | .dead, l => l = []
theorem MRep.tr {W : Wd} {S S' : Addr → Prop} {H H' : Hp} {m : MO} {l : List Addr} (h : MRep W S H m l) (hs : ∀ b, S' b → S b ∨ H b = none) (hk : ∀ b o, ¬ S b → H b = some o → H' b = some o) (hl : ∀ b o, b ∈ l → H b = some o → H' b = some o) : MRep W S' H' m l := by
  cases m with
  | l ds => obtain ⟨p, vs, e, t, r⟩ := h; exact ⟨p, vs, e, hl _ _ (by rw [e]; simp) t, Reps.tr hs hk _ _ r⟩
  | k ks ds => obtain ⟨p, vs, e, t, z, r⟩ := h; exact ⟨p, vs, e, hl _ _ (by rw [e]; simp) t, z, Reps.tr hs hk _ _ r⟩
  | o c ds => obtain ⟨p, dx, vs, e, t, z, r⟩ := h; exact ⟨p, dx, vs, e, hl _ _ (by rw [e]; simp) t, z, Reps.tr hs hk _ _ r⟩
  | dead => exact h
theorem MRep.trk {W : Wd} {S : Addr → Prop} {H : Hp} {m : MO} {l : List Addr} (h : MRep W S H m l) {b : Addr} (hb : b ∈ l) : H b ≠ none := by
  cases m with
  | l ds => obtain ⟨p, vs, e, t, r⟩ := h; rw [e] at hb; simp at hb; subst hb; rw [t]; simp
  | k ks ds => obtain ⟨p, vs, e, t, r⟩ := h; rw [e] at hb; simp at hb; subst hb; rw [t]; simp
  | o c ds => obtain ⟨p, dx, vs, e, t, r⟩ := h; rw [e] at hb; simp at hb; subst hb; rw [t]; simp
  | dead => rw [show l = [] from h] at hb; simp at hb

/-- a value or the k-th thing of the store -/
inductive AV where
  | d (x : D) | m (k : Nat)
abbrev Rho := List (Option AV)
abbrev Mm := List MO
abbrev Als := List (List Addr)
def Av (S : Addr → Prop) (α : Als) : Addr → Prop := fun b => S b ∨ ∃ l ∈ α, b ∈ l

structure EM (W : Wd) (S : Addr → Prop) (α : Als) (M : Mm) (H : Hp) : Prop where
  rep : Paired (MRep W (Av S α) H) M α
  nd : α.flatten.Nodup
  trk : ∀ b, S b → H b ≠ none

def RepA (W : Wd) (S : Addr → Prop) (α : Als) (H : Hp) : AV → V → Prop
  | .d x, v => Rep W (Av S α) H x v
  | .m k, v => ∃ p l, α[k]? = some (p :: l) ∧ v = .ref p

structure Ev (W : Wd) (S : Addr → Prop) (α : Als) (ρ : Rho) (M : Mm) (σ : L2.St) (H : Hp) : Prop where
  em : EM W S α M H
  len : σ.length = ρ.length
  sl : ∀ (i : Nat) a, ρ[i]? = some (some a) → ∃ v, σ[i]? = some (some v) ∧ RepA W S α H a v

/-- how a heap may go on: what stands outside the store is kept, what is tracked stays tracked, the new things are new -/
structure Gr (α β : Als) (H H' : Hp) : Prop where
  kp : ∀ b o, (∀ l ∈ α, b ∉ l) → H b = some o → H' b = some o
  st : ∀ b, H b ≠ none → H' b ≠ none
  fr : ∀ l ∈ β, ∀ b ∈ l, H b = none

section
variable {W : Wd} {S : Addr → Prop} {α β γ : Als} {ρ : Rho} {M M' : Mm} {σ : L2.St} {H H' H1 H2 : Hp}
theorem Gr.refl : Gr α [] H H := ⟨fun _ _ _ h => h, fun _ h => h, fun _ h => by simp at h⟩
theorem Gr.same (h : Same H H') : Gr α [] H H' := ⟨fun b o _ e => h b o e, fun b e => by
  cases q : H b with
  | none => exact absurd q e
  | some o => rw [h b o q]; simp, fun _ h => by simp at h⟩
theorem Gr.trans (h1 : Gr α β H H1) (h2 : Gr (α ++ β) γ H1 H2) : Gr α (β ++ γ) H H2 := by
  refine ⟨fun b o n e => ?_, fun b e => h2.st b (h1.st b e), fun l hl b hb => ?_⟩
  · have e1 := h1.kp b o n e
    refine h2.kp b o (fun l hl z => ?_) e1
    rcases List.mem_append.mp hl with q | q
    · exact n l q z
    · rw [h1.fr l q b z] at e; cases e
  · rcases List.mem_append.mp hl with q | q
    · exact h1.fr l q b hb
    · have e1 := h2.fr l q b hb
      cases e : H b with
      | none => rfl
      | some o => exact absurd e1 (h1.st b (by rw [e]; simp))
theorem paired_trk {T : Addr → Prop} {l : List Addr} {b : Addr} (hb : b ∈ l) : ∀ {M : Mm} {α : Als}, Paired (MRep W T H) M α → l ∈ α → H b ≠ none := by
  intro M α p
  induction p with
  | nil => intro h; simp at h
  | cons r t ih =>
    intro h
    rcases List.mem_cons.mp h with q | q
    · subst q; exact r.trk hb
    · exact ih q
theorem EM.trA (e : EM W S α M H) : ∀ b, Av S α b → H b ≠ none := fun b hb => by
  rcases hb with hb | ⟨l, hl, hb⟩
  · exact e.trk b hb
  · exact paired_trk hb e.rep hl
theorem EM.len (e : EM W S α M H) : M.length = α.length := Paired.length e.rep
theorem av_app {b : Addr} : Av S (α ++ β) b → Av S α b ∨ ∃ l ∈ β, b ∈ l := fun h => by
  rcases h with h | ⟨l, hl, hb⟩
  · exact .inl (.inl h)
  · rcases List.mem_append.mp hl with q | q
    · exact .inl (.inr ⟨l, q, hb⟩)
    · exact .inr ⟨l, q, hb⟩
theorem av_mono {b : Addr} (h : Av S α b) : Av S (α ++ β) b := by
  rcases h with h | ⟨l, hl, hb⟩
  · exact .inl h
  · exact .inr ⟨l, List.mem_append_left _ hl, hb⟩
/-- a value that was read stays the same value -/
theorem Rep.up {d : D} {v : V} (r : Rep W (Av S α) H d v) (g : Gr α β H H') : Rep W (Av S (α ++ β)) H' d v := by
  refine Rep.tr (fun b hb => ?_) (fun b o n e => g.kp b o (fun l hl z => n (.inr ⟨l, hl, z⟩)) e) d v r
  rcases av_app hb with q | ⟨l, hl, q⟩
  · exact .inl q
  · exact .inr (g.fr l hl b q)
theorem Reps.up {ds : List D} {vs : List V} (r : Reps W (Av S α) H ds vs) (g : Gr α β H H') : Reps W (Av S (α ++ β)) H' ds vs := by
  refine Reps.tr (fun b hb => ?_) (fun b o n e => g.kp b o (fun l hl z => n (.inr ⟨l, hl, z⟩)) e) ds vs r
  rcases av_app hb with q | ⟨l, hl, q⟩
  · exact .inl q
  · exact .inr (g.fr l hl b q)
theorem get_app {α β : Als} {k : Nat} {l : List Addr} (h : α[k]? = some l) : (α ++ β)[k]? = some l := by
  rw [List.getElem?_append_left (List.getElem?_eq_some_iff.mp h).1]; exact h
theorem RepA.up {a : AV} {v : V} (r : RepA W S α H a v) (g : Gr α β H H') : RepA W S (α ++ β) H' a v := by
  cases a with
  | d x => exact Rep.up (show Rep W (Av S α) H x v from r) g
  | m k => obtain ⟨p, l, h, e⟩ := (show ∃ p l, α[k]? = some (p :: l) ∧ v = .ref p from r); exact ⟨p, l, get_app h, e⟩
theorem Ev.up (e : Ev W S α ρ M σ H) (g : Gr α β H H') (e' : EM W S (α ++ β) M' H') : Ev W S (α ++ β) ρ M' σ H' :=
  ⟨e', e.len, fun i a hi => let ⟨v, h1, h2⟩ := e.sl i a hi; ⟨v, h1, h2.up g⟩⟩
/-- the heap goes on, the store as it was -/
theorem EM.on (e : EM W S α M H) (h : Same H H') : EM W S α M H' := by
  refine ⟨?_, e.nd, fun b hb => ?_⟩
  · refine Paired.mapP e.rep fun m l r => r.tr (fun b hb => .inl hb) (fun b o _ q => h b o q) fun b o _ q => h b o q
  · cases q : H b with
    | none => exact absurd q (e.trk b hb)
    | some o => rw [h b o q]; simp
theorem same_new {p : Addr} {o : HO} (h : H p = none) : Same H (upd H p o) := fun b x e => by
  rw [upd_ne (ne_of_none e h)]; exact e
theorem app_nil (α : Als) : α ++ [] = α := List.append_nil α
theorem EM.on' (e : EM W S α M H) (h : Same H H') : EM W S (α ++ []) M H' := by rw [app_nil]; exact e.on h
/-- a fresh address is away from all that is avoided -/
theorem EM.off (e : EM W S α M H) {p : Addr} (h : H p = none) : ¬ Av S α p := fun z => e.trA p z h
theorem LSq.of {p : Addr} {vs : List V} {T : Addr → Prop} (n : ¬ T p) (h : H p = some (.lst vs)) : LSq W T H p vs := .inl ⟨n, .inl h⟩
theorem TSq.of {p : Addr} {vs : List V} {T : Addr → Prop} (n : ¬ T p) (h : H p = some (.tup vs)) : TSq W T H p vs := .inl ⟨n, .inl h⟩
end

/-! ### universal readings -/
section
variable (X : Cx)
def uE (e : Expr) : TE := fun σ H Q => ∀ pins s, Inv X pins σ H s → wpAny (model X.prog X.w) X.A (eval e X.env) (EP X pins σ Q) X.xe s
def uT (e : Expr) : TT := fun σ H Q => ∀ pins s, Inv X pins σ H s → wpAny (model X.prog X.w) X.A (isTrue e X.env (eval e X.env)) (TP X pins σ Q) X.xe s
def uA (es : List Expr) : TA := fun σ H Q => ∀ pos pins s, Inv X pins σ H s → wpAny (model X.prog X.w) X.A (spliced (backTo pos (starEach es X.env))) (AP X pins σ Q) X.xe s
def uS (st : Stmt) : TS := fun D σ H => ∀ pins s, Inv X pins σ H s → wpAny (model X.prog X.w) X.A (exec st X.env) (SP X pins D) X.xe s
def uSs (st : List Stmt) : TS := fun D σ H => ∀ pins s, Inv X pins σ H s → wpAny (model X.prog X.w) X.A (execs st X.env) (SP X pins D) X.xe s
def uG (tg : Expr) : TG := fun v σ H Q => ∀ pins s u, Inv X pins σ H s → RelV v u → wpAny (model X.prog X.w) X.A (assign tg X.env u) (fun _ s' => ∃ σ' H', Inv X pins σ' H' s' ∧ Q σ' H') X.xe s
def uO (f : Value → Value → Sem Value) : R2 := fun x y H Q => ∀ pins s σ v u, Inv X pins σ H s → RelV x v → RelV y u → wpAny (model X.prog X.w) X.A (f v u) (EP X pins σ Q) X.xe s
def uU (f : Value → Sem Value) : V → Hp → VK → Prop := fun x H Q => ∀ pins s σ v, Inv X pins σ H s → RelV x v → wpAny (model X.prog X.w) X.A (f v) (EP X pins σ Q) X.xe s
def uC (f : Value) : List V → Hp → VK → Prop := fun xs H Q => ∀ pins s σ us, Inv X pins σ H s → Vals xs us → wpAny (model X.prog X.w) X.A (call f us) (EP X pins σ Q) X.xe s
end
section
variable {X : Cx} {e : Expr} {es : List Expr} {st : Stmt} {sts : List Stmt}
theorem pe_u : PE X e (uE X e) := ⟨fun pins s _ _ _ I h => h pins s I⟩
theorem pt_u : PT X e (uT X e) := ⟨fun pins s _ _ _ I h => h pins s I⟩
theorem pa_u : PA X es (uA X es) := ⟨fun pos pins s _ _ _ I h => h pos pins s I⟩
theorem ps_u : PS X st (uS X st) := ⟨fun pins s _ _ _ I h => h pins s I⟩
theorem pss_u : PSs X sts (uSs X sts) := ⟨fun pins s _ _ _ I h => h pins s I⟩
theorem pg_u : PG X e (uG X e) := ⟨fun pins s _ _ _ u _ I r h => h pins s u I r⟩
theorem op_u {f : Value → Value → Sem Value} : OpR X f (uO X f) := fun pins s σ _ _ _ v u _ I rx ry h => h pins s σ v u I rx ry
theorem un_u {f : Value → Sem Value} : UnR X f (uU X f) := fun pins s σ _ _ v _ I rx h => h pins s σ v I rx
theorem call_u {f : Value} : CallR X f (uC X f) := fun pins s σ _ _ us _ I r h => h pins s σ us I r
variable {σ : L2.St} {H : Hp} {Q : VK}
theorem uE_of {t : TE} (p : PE X e t) (h : t σ H Q) : uE X e σ H Q := fun pins s I => p.run pins s σ H Q I h
theorem uT_of {t : TT} {Q : Bool → Hp → Prop} (p : PT X e t) (h : t σ H Q) : uT X e σ H Q := fun pins s I => p.run pins s σ H Q I h
theorem uA_of {t : TA} {Q : List V → Hp → Prop} (p : PA X es t) (h : t σ H Q) : uA X es σ H Q := fun pos pins s I => p.run pos pins s σ H Q I h
theorem uS_of {t : TS} {D : Ends} (p : PS X st t) (h : t D σ H) : uS X st D σ H := fun pins s I => p.run pins s σ H D I h
theorem uSs_of {t : TS} {D : Ends} (p : PSs X sts t) (h : t D σ H) : uSs X sts D σ H := fun pins s I => p.run pins s σ H D I h
theorem uG_of {t : TG} {v : V} {Q : L2.St → Hp → Prop} (p : PG X e t) (h : t v σ H Q) : uG X e v σ H Q := fun pins s u I r => p.run pins s σ H v u Q I r h
theorem uO_of {f : Value → Value → Sem Value} {r : R2} {x y : V} (p : OpR X f r) (h : r x y H Q) : uO X f x y H Q := fun pins s σ v u I rx ry => p pins s σ H x y v u Q I rx ry h
theorem uU_of {f : Value → Sem Value} {r : V → Hp → VK → Prop} {x : V} (p : UnR X f r) (h : r x H Q) : uU X f x H Q := fun pins s σ v I rx => p pins s σ H x v Q I rx h
theorem uC_of {f : Value} {r : List V → Hp → VK → Prop} {xs : List V} (p : CallR X f r) (h : r xs H Q) : uC X f xs H Q := fun pins s σ us I rx => p pins s σ H xs us Q I rx h
end
end Dl

/-! DL2: the judgements over data, the rules of names, constants, blocks, ifs, loops. -/
namespace Dl
open PySem L2

/-- what is wanted of an exception: its class, its fields, the names, the store -/
abbrev XP := Nat → List D → Rho → Mm → Prop
structure Ctx where
  X : Cx
  W : Wd
  n0 : Nat
  T : XP
/-- a raised exception of class c -/
def XRep (W : Wd) (S : Addr → Prop) (H : Hp) (c : Nat) (ds : List D) (cls : Value) (dA : Option Addr) : Prop :=
  cls = .ref (W.ca c) ∧ ((ds = [] ∧ W.cf c = [] ∧ dA = none) ∨ ∃ dd vs, dA = some dd ∧ ¬ S dd ∧ H dd = some (.xd ((W.cf c).zip vs)) ∧ vs.length = (W.cf c).length ∧ Reps W S H ds vs)
/-- since the anchor -/
def Gr0 (α0 α : Als) (H0 H : Hp) : Prop := ∃ β, α = α0 ++ β ∧ Gr α0 β H0 H
structure Bs (C : Ctx) (S : Addr → Prop) (α0 : Als) (H0 : Hp) : Prop where
  len : α0.length = C.n0
  trk : ∀ b, Av S α0 b → H0 b ≠ none
  tk : ∃ Wx : WX, Takes C.X Wx ∧ ∀ c ds ρ M α σ H cls dA, C.T c ds ρ M → Ev C.W S α ρ M σ H → Gr0 α0 α H0 H → XRep C.W (Av S α) H c ds cls dA → Wx cls dA σ H

def RepsA (W : Wd) (S : Addr → Prop) (α : Als) (H : Hp) : List AV → List V → Prop
  | [], vs => vs = []
  | a :: as, vs => ∃ v r, vs = v :: r ∧ RepA W S α H a v ∧ RepsA W S α H as r

/-- an expression: Ψ holds of its value and of the store behind it -/
structure WE (C : Ctx) (e : Expr) (ρ : Rho) (M : Mm) (Ψ : AV → Mm → Prop) : Prop where
  run : ∀ S α0 H0 α σ H (Q : VK), Bs C S α0 H0 → Gr0 α0 α H0 H → Ev C.W S α ρ M σ H →
    (∀ a M' β v H', Ψ a M' → EM C.W S (α ++ β) M' H' → Gr α β H H' → RepA C.W S (α ++ β) H' a v → Q v H') → uE C.X e σ H Q
structure WT (C : Ctx) (e : Expr) (ρ : Rho) (M : Mm) (Ψ : Bool → Mm → Prop) : Prop where
  run : ∀ S α0 H0 α σ H (Q : Bool → Hp → Prop), Bs C S α0 H0 → Gr0 α0 α H0 H → Ev C.W S α ρ M σ H →
    (∀ b M' β H', Ψ b M' → EM C.W S (α ++ β) M' H' → Gr α β H H' → Q b H') → uT C.X e σ H Q
structure WA (C : Ctx) (es : List Expr) (ρ : Rho) (M : Mm) (Ψ : List AV → Mm → Prop) : Prop where
  run : ∀ S α0 H0 α σ H (Q : List V → Hp → Prop), Bs C S α0 H0 → Gr0 α0 α H0 H → Ev C.W S α ρ M σ H →
    (∀ as M' β vs H', Ψ as M' → EM C.W S (α ++ β) M' H' → Gr α β H H' → RepsA C.W S (α ++ β) H' as vs → Q vs H') → uA C.X es σ H Q
/-- an operation of two values, of one, a call of a built-in thing -/
structure WO (C : Ctx) (f : Value → Value → Sem Value) (x y : AV) (M : Mm) (Ψ : AV → Mm → Prop) : Prop where
  run : ∀ S α H (Q : VK) v u, EM C.W S α M H → RepA C.W S α H x v → RepA C.W S α H y u →
    (∀ a M' β w H', Ψ a M' → EM C.W S (α ++ β) M' H' → Gr α β H H' → RepA C.W S (α ++ β) H' a w → Q w H') → uO C.X f v u H Q
structure WU (C : Ctx) (f : Value → Sem Value) (x : AV) (M : Mm) (Ψ : AV → Mm → Prop) : Prop where
  run : ∀ S α H (Q : VK) v, EM C.W S α M H → RepA C.W S α H x v →
    (∀ a M' β w H', Ψ a M' → EM C.W S (α ++ β) M' H' → Gr α β H H' → RepA C.W S (α ++ β) H' a w → Q w H') → uU C.X f v H Q
structure WC (C : Ctx) (f : Value) (as : List AV) (M : Mm) (Ψ : AV → Mm → Prop) : Prop where
  run : ∀ S α H (Q : VK) vs, EM C.W S α M H → RepsA C.W S α H as vs →
    (∀ a M' β w H', Ψ a M' → EM C.W S (α ++ β) M' H' → Gr α β H H' → RepA C.W S (α ++ β) H' a w → Q w H') → uC C.X f vs H Q

/-- what is wanted behind a statement -/
structure Kn where
  nx : Rho → Mm → Prop
  rt : AV → Mm → Prop
  bk : Rho → Mm → Prop := fun _ _ => False
  ct : Rho → Mm → Prop := fun _ _ => False
structure Fin (C : Ctx) (S : Addr → Prop) (α0 : Als) (H0 : Hp) (Φ : Kn) (D : Ends) : Prop where
  nx : ∀ ρ M α σ H, Φ.nx ρ M → Ev C.W S α ρ M σ H → Gr0 α0 α H0 H → D.nx σ H
  rt : ∀ a M α v H, Φ.rt a M → EM C.W S α M H → Gr0 α0 α H0 H → RepA C.W S α H a v → D.rt v H
  bk : ∀ ρ M α σ H, Φ.bk ρ M → Ev C.W S α ρ M σ H → Gr0 α0 α H0 H → D.bk σ H
  ct : ∀ ρ M α σ H, Φ.ct ρ M → Ev C.W S α ρ M σ H → Gr0 α0 α H0 H → D.ct σ H
structure W1 (C : Ctx) (st : Stmt) (ρ : Rho) (M : Mm) (Φ : Kn) : Prop where
  run : ∀ S α0 H0 α σ H D, Bs C S α0 H0 → Gr0 α0 α H0 H → Ev C.W S α ρ M σ H → Fin C S α0 H0 Φ D → uS C.X st D σ H
structure WS (C : Ctx) (sts : List Stmt) (ρ : Rho) (M : Mm) (Φ : Kn) : Prop where
  run : ∀ S α0 H0 α σ H D, Bs C S α0 H0 → Gr0 α0 α H0 H → Ev C.W S α ρ M σ H → Fin C S α0 H0 Φ D → uSs C.X sts D σ H
/-- a target is given a value -/
structure WG (C : Ctx) (tg : Expr) (a : AV) (ρ : Rho) (M : Mm) (Ψ : Rho → Mm → Prop) : Prop where
  run : ∀ S α σ H (Q : L2.St → Hp → Prop) v, Ev C.W S α ρ M σ H → RepA C.W S α H a v →
    (∀ ρ' M' β σ' H', Ψ ρ' M' → Ev C.W S (α ++ β) ρ' M' σ' H' → Gr α β H H' → Q σ' H') → uG C.X tg v σ H Q

/-- what is known of the place where one stands -/
structure Cok (C : Ctx) (P : Program) (w : World) (K : PySem.W.Frag) (mg : Str → Option Value) (base : Heap) (N gs : List Str) (Vi Li : List Nat) (k : Nat) : Prop where
  prog : C.X.prog = P
  wE : C.X.w = w
  kE : C.X.K = K
  mgE : C.X.mg = mg
  baseE : C.X.base = base
  WK : C.W.K = K
  nE : C.X.N = N
  nd : N.Nodup
  vis : ∀ i x, i ∈ Vi → N[i]? = some x → Vis C.X.env.scope x
  loc : ∀ i x, i ∈ Li → N[i]? = some x → Loc C.X.env.scope x ∧ (C.X.fn x = true ∨ C.X.env.scope.names.lookup x = some .local)
  gl : ∀ (i : Nat) x, gs[i]? = some x → Gl C.X x
  calm : C.X.calm = true
  room : Room k C.X.A

section
variable {W : Wd} {S : Addr → Prop} {α β γ : Als} {ρ : Rho} {M M' : Mm} {σ : L2.St} {H H' H1 H2 H0 : Hp} {α0 : Als}
theorem Gr0.refl : Gr0 α α H H := ⟨[], (app_nil α).symm, Gr.refl⟩
theorem Gr0.trans (h : Gr0 α0 α H0 H) (g : Gr α β H H') : Gr0 α0 (α ++ β) H0 H' := by
  obtain ⟨γ, e, g0⟩ := h
  subst e
  exact ⟨γ ++ β, List.append_assoc _ _ _, g0.trans g⟩
theorem RepsA.up : ∀ {as : List AV} {vs : List V}, RepsA W S α H as vs → Gr α β H H' → RepsA W S (α ++ β) H' as vs
  | [], vs, r, g => r
  | a :: as, vs, r, g => by
    obtain ⟨v, r, e, h, t⟩ := (show ∃ v r, vs = v :: r ∧ RepA W S α H a v ∧ RepsA W S α H as r from r)
    exact ⟨v, r, e, h.up g, RepsA.up t g⟩
end

section
variable {C : Ctx} {e : Expr} {es : List Expr} {st : Stmt} {sts : List Stmt} {ρ : Rho} {M : Mm} {Φ Φ' : Kn} {Ψ Ψ' : AV → Mm → Prop}
theorem WE.mono (h : WE C e ρ M Ψ) (k : ∀ a M', Ψ a M' → Ψ' a M') : WE C e ρ M Ψ' :=
  ⟨fun S α0 H0 α σ H Q b g ev q => h.run S α0 H0 α σ H Q b g ev fun a M' β v H' p => q a M' β v H' (k a M' p)⟩
theorem WO.mono {f x y} (h : WO C f x y M Ψ) (k : ∀ a M', Ψ a M' → Ψ' a M') : WO C f x y M Ψ' :=
  ⟨fun S α H Q v u e1 e2 e3 q => h.run S α H Q v u e1 e2 e3 fun a M' β v H' p => q a M' β v H' (k a M' p)⟩
theorem WC.mono {f as} (h : WC C f as M Ψ) (k : ∀ a M', Ψ a M' → Ψ' a M') : WC C f as M Ψ' :=
  ⟨fun S α H Q vs e1 e2 q => h.run S α H Q vs e1 e2 fun a M' β v H' p => q a M' β v H' (k a M' p)⟩
theorem Fin.mono {S : Addr → Prop} {α0 : Als} {H0 : Hp} {D : Ends} (f : Fin C S α0 H0 Φ D) (h1 : ∀ ρ M, Φ'.nx ρ M → Φ.nx ρ M) (h2 : ∀ a M, Φ'.rt a M → Φ.rt a M) (h3 : ∀ ρ M, Φ'.bk ρ M → Φ.bk ρ M) (h4 : ∀ ρ M, Φ'.ct ρ M → Φ.ct ρ M) : Fin C S α0 H0 Φ' D :=
  ⟨fun ρ M α σ H p => f.nx ρ M α σ H (h1 _ _ p), fun a M α v H p => f.rt a M α v H (h2 _ _ p), fun ρ M α σ H p => f.bk ρ M α σ H (h3 _ _ p), fun ρ M α σ H p => f.ct ρ M α σ H (h4 _ _ p)⟩
theorem WS.mono (h : WS C sts ρ M Φ') (h1 : ∀ ρ M, Φ'.nx ρ M → Φ.nx ρ M) (h2 : ∀ a M, Φ'.rt a M → Φ.rt a M) (h3 : ∀ ρ M, Φ'.bk ρ M → Φ.bk ρ M) (h4 : ∀ ρ M, Φ'.ct ρ M → Φ.ct ρ M) : WS C sts ρ M Φ :=
  ⟨fun S α0 H0 α σ H D b g ev f => h.run S α0 H0 α σ H D b g ev (f.mono h1 h2 h3 h4)⟩

/-! ### blocks -/
theorem ws_nil (h : Φ.nx ρ M) : WS C [] ρ M Φ :=
  ⟨fun S α0 H0 α σ H D b g ev f => uSs_of pss_nil (f.nx ρ M α σ H h ev g)⟩
theorem ws_cons (h : W1 C st ρ M { Φ with nx := fun ρ' M' => WS C sts ρ' M' Φ }) : WS C (st :: sts) ρ M Φ := by
  refine ⟨fun S α0 H0 α σ H D b g ev f => uSs_of (pss_cons ps_u pss_u) ?_⟩
  show uS C.X st { D with nx := uSs C.X sts D } σ H
  refine h.run S α0 H0 α σ H _ b g ev ⟨fun ρ' M' α' σ' H' p ev' g' => p.run S α0 H0 α' σ' H' D b g' ev' f, f.rt, f.bk, f.ct⟩
theorem ws_one (h : W1 C st ρ M Φ) : WS C [st] ρ M Φ :=
  ⟨fun S α0 H0 α σ H D b g ev f => uSs_of (pss_one ps_u) (h.run S α0 H0 α σ H D b g ev f)⟩
/-- code that is never come to -/
theorem ws_never (h : False) : WS C sts ρ M Φ := h.elim

theorem w1_pass {pos : Pos} (h : Φ.nx ρ M) : W1 C (.Pass pos) ρ M Φ := ⟨fun S α0 H0 α σ H D b g ev f => uS_of ps_pass (f.nx ρ M α σ H h ev g)⟩
theorem w1_break {pos : Pos} (h : Φ.bk ρ M) : W1 C (.Break pos) ρ M Φ := ⟨fun S α0 H0 α σ H D b g ev f => uS_of ps_break (f.bk ρ M α σ H h ev g)⟩
theorem w1_continue {pos : Pos} (h : Φ.ct ρ M) : W1 C (.Continue pos) ρ M Φ := ⟨fun S α0 H0 α σ H D b g ev f => uS_of ps_continue (f.ct ρ M α σ H h ev g)⟩
theorem w1_expr {pos : Pos} (h : WE C e ρ M fun _ M' => Φ.nx ρ M') (hs : swapsWith e none pos.line C.X.env = pure false := by rfl) : W1 C (.Expr e pos) ρ M Φ := by
  refine ⟨fun S α0 H0 α σ H D b g ev f => uS_of (ps_expr pe_u hs) ?_⟩
  show uE C.X e σ H fun _ H1 => D.nx σ H1
  exact h.run S α0 H0 α σ H _ b g ev fun a M' β v H' p e' g' r => f.nx ρ M' (α ++ β) σ H' p (ev.up g' e') (g.trans g')

/-! ### the end of a def: what it made itself is let go, or handed over -/
def Clo (n0 : Nat) (a : AV) (M : Mm) (R : AV → Mm → Prop) : Prop := match a with
  | .d x => R (.d x) (M.take n0)
  | .m k => if k < n0 then R (.m k) (M.take n0) else match M[k]? with
    | some (.l ds) => R (.d (.lst ds)) (M.take n0)
    | some (.k ks ds) => R (.d (.dk ks ds)) (M.take n0)
    | _ => False
end
section
variable {W : Wd} {S : Addr → Prop} {α β γ α0 : Als} {ρ : Rho} {M M' : Mm} {σ : L2.St} {H H' H1 H2 H0 : Hp} {x y : AV} {v : V}
theorem paired_take {T : MO → List Addr → Prop} : ∀ {M : Mm} {α : Als} (n : Nat), Paired T M α → Paired T (M.take n) (α.take n)
  | _, _, 0, _ => by simp; exact .nil
  | _, _, _ + 1, .nil => by simp; exact .nil
  | _, _, n + 1, .cons r t => by simp; exact .cons r (paired_take n t)
theorem paired_get {T : MO → List Addr → Prop} : ∀ {M : Mm} {α : Als} {k : Nat} {m : MO}, Paired T M α → M[k]? = some m → ∃ l, α[k]? = some l ∧ T m l
  | _, _, _, _, .nil, h => by simp at h
  | _, _, 0, _, .cons r t, h => by simp at h; subst h; exact ⟨_, rfl, r⟩
  | _, _, k + 1, _, .cons r t, h => by
    obtain ⟨l, h1, h2⟩ := paired_get (k := k) t (by simpa using h)
    exact ⟨l, by simpa using h1, h2⟩
theorem paired_set {T : MO → List Addr → Prop} {m : MO} {l : List Addr} (h : T m l) : ∀ {M : Mm} {α : Als} (k : Nat), Paired T M α → α[k]? = some l → Paired T (M.set k m) α
  | _, _, _, .nil, _ => .nil
  | _, _, 0, .cons r t, e => by simp at e; subst e; exact .cons h t
  | _, _, k + 1, .cons r t, e => .cons r (paired_set h k t (by simpa using e))
theorem paired_app {T : MO → List Addr → Prop} : ∀ {M M' : Mm} {α β : Als}, Paired T M α → Paired T M' β → Paired T (M ++ M') (α ++ β)
  | _, _, _, _, .nil, s => s
  | _, _, _, _, .cons r t, s => .cons r (paired_app t s)
theorem av_less {b : Addr} {α' : Als} (h : ∀ l ∈ α', l ∈ α) (z : Av S α' b) : Av S α b := by
  rcases z with z | ⟨l, hl, hb⟩
  · exact .inl z
  · exact .inr ⟨l, h l hl, hb⟩
theorem Rep.less {d : D} {v : V} {S' : Addr → Prop} (h : ∀ b, S' b → S b) (r : Rep W S H d v) : Rep W S' H d v := Rep.tr (fun b z => .inl (h b z)) (fun _ _ _ e => e) d v r
theorem Reps.less {d : List D} {v : List V} {S' : Addr → Prop} (h : ∀ b, S' b → S b) (r : Reps W S H d v) : Reps W S' H d v := Reps.tr (fun b z => .inl (h b z)) (fun _ _ _ e => e) d v r
theorem flatten_take_sub (α : Als) (n : Nat) : (α.take n).flatten.Sublist α.flatten := by
  have e : α.flatten = (α.take n).flatten ++ (α.drop n).flatten := by rw [← List.flatten_append, List.take_append_drop]
  rw [e]; exact List.sublist_append_left _ _
/-- the store cut to its first things -/
theorem EM.take (e : EM W S α M H) (n : Nat) : EM W S (α.take n) (M.take n) H := by
  refine ⟨?_, e.nd.sublist (flatten_take_sub α n), e.trk⟩
  refine Paired.mapP (paired_take n e.rep) fun m l r => r.tr (fun b hb => .inl (av_less (fun l hl => List.mem_of_mem_take hl) hb)) (fun _ _ _ z => z) fun _ _ _ z => z
theorem Gr0.take (g : Gr0 α0 α H0 H) : Gr0 α0 (α.take α0.length) H0 H := by
  obtain ⟨β, e, g⟩ := g
  subst e
  refine ⟨[], by simp, ⟨g.kp, g.st, fun l hl => by simp at hl⟩⟩
theorem nodup_flat_ne {α : Als} (h : α.flatten.Nodup) {i j : Nat} {l l' : List Addr} {b : Addr} (hi : α[i]? = some l) (hj : α[j]? = some l') (hb : b ∈ l) (hb' : b ∈ l') : i = j := by
  induction α generalizing i j with
  | nil => simp at hi
  | cons a r ih =>
    rw [List.flatten_cons, List.nodup_append] at h
    obtain ⟨h1, h2, h3⟩ := h
    have mem : ∀ {i : Nat} {l : List Addr}, r[i]? = some l → b ∈ l → b ∈ r.flatten := fun e m => List.mem_flatten.mpr ⟨_, List.mem_of_getElem? e, m⟩
    cases i with
    | zero =>
      cases j with
      | zero => rfl
      | succ j =>
        simp at hi; subst hi
        exact absurd rfl (h3 b hb b (mem (by simpa using hj) hb'))
    | succ i =>
      cases j with
      | zero =>
        simp at hj; subst hj
        exact absurd rfl (h3 b hb' b (mem (by simpa using hi) hb))
      | succ j => exact congrArg (· + 1) (ih h2 (by simpa using hi) (by simpa using hj))
end
section
variable {C : Ctx} {e : Expr} {ρ : Rho} {M : Mm} {Φ : Kn}
theorem clo_ok {S : Addr → Prop} {α0 α : Als} {H0 H : Hp} {a : AV} {v : V} {R : AV → Mm → Prop} (b : Bs C S α0 H0) (g : Gr0 α0 α H0 H) (em : EM C.W S α M H) (r : RepA C.W S α H a v) (c : Clo C.n0 a M R) :
    ∃ a' M' α', R a' M' ∧ EM C.W S α' M' H ∧ Gr0 α0 α' H0 H ∧ RepA C.W S α' H a' v := by
  have e0 := b.len
  have less : ∀ z, Av S (α.take C.n0) z → Av S α z := fun z h => av_less (fun l hl => List.mem_of_mem_take hl) h
  have g' : Gr0 α0 (α.take C.n0) H0 H := by rw [← e0]; exact g.take
  cases a with
  | d x => exact ⟨.d x, _, _, c, em.take _, g', Rep.less less (show Rep C.W (Av S α) H x v from r)⟩
  | m k =>
    have c' : (if k < C.n0 then R (.m k) (M.take C.n0) else match M[k]? with
      | some (.l ds) => R (.d (.lst ds)) (M.take C.n0)
      | some (.k ks ds) => R (.d (.dk ks ds)) (M.take C.n0)
      | _ => False) := c
    obtain ⟨p, l, hp, ev⟩ := (show ∃ p l, α[k]? = some (p :: l) ∧ v = .ref p from r)
    by_cases hk : k < C.n0
    · rw [if_pos hk] at c'
      exact ⟨.m k, _, _, c', em.take _, g', p, l, by rw [List.getElem?_take_of_lt hk]; exact hp, ev⟩
    · rw [if_neg hk] at c'
      -- a thing that was made here: away from all that is to be avoided
      have off : ¬ Av S (α.take C.n0) p := fun z => by
        obtain ⟨β, e, g1⟩ := g
        have t : H0 p ≠ none := b.trk p (by
          have e2 : α.take C.n0 = α0 := by rw [e, ← e0]; simp
          rw [e2] at z; exact z)
        have hl : (p :: l) ∈ β := by
          rw [e, List.getElem?_append_right (by rw [e0]; exact Nat.le_of_not_lt hk)] at hp
          exact List.mem_of_getElem? hp
        exact t (g1.fr _ hl p List.mem_cons_self)
      cases q : M[k]? with
      | none => rw [q] at c'; exact c'.elim
      | some m =>
        rw [q] at c'
        obtain ⟨l', h1, h2⟩ := paired_get em.rep q
        rw [hp] at h1; cases h1
        cases m with
        | l ds =>
          obtain ⟨p', vs, ep, hh, rr⟩ := h2
          cases ep
          exact ⟨_, _, _, c', em.take _, g', p, vs, ev, LSq.of off hh, Reps.less less rr⟩
        | k ks ds =>
          obtain ⟨p', vs, ep, hh, hl, rr⟩ := h2
          cases ep
          exact ⟨_, _, _, c', em.take _, g', p, vs, ev, off, hh, hl, Reps.less less rr⟩
        | o c ds => exact c'.elim
        | dead => exact c'.elim
theorem w1_ret {pos : Pos} (h : WE C e ρ M fun a M' => Clo C.n0 a M' Φ.rt) : W1 C (.Return (some e) pos) ρ M Φ := by
  refine ⟨fun S α0 H0 α σ H D b g ev f => uS_of (ps_ret pe_u) ?_⟩
  show uE C.X e σ H D.rt
  refine h.run S α0 H0 α σ H _ b g ev fun a M' β v H' p e' g' r => ?_
  obtain ⟨a', M2, α', h1, h2, h3, h4⟩ := clo_ok b (g.trans g') e' r p
  exact f.rt a' M2 α' v H' h1 h2 h3 h4
theorem w1_retN {pos : Pos} (h : Φ.rt (.d .non) (M.take C.n0)) : W1 C (.Return none pos) ρ M Φ := by
  refine ⟨fun S α0 H0 α σ H D b g ev f => uS_of ps_retN ?_⟩
  show D.rt .non H
  obtain ⟨a', M2, α', h1, h2, h3, h4⟩ := clo_ok (a := .d .non) (v := .non) (R := Φ.rt) b g ev.em rfl h
  exact f.rt a' M2 α' .non H h1 h2 h3 h4
/-- the newest things are forgotten -/
theorem ws_drop {sts : List Stmt} (n : Nat) (hn : C.n0 ≤ n) (hρ : ∀ (i k : Nat), ρ[i]? = some (some (AV.m k)) → k < n) (h : WS C sts ρ (M.take n) Φ) : WS C sts ρ M Φ := by
  refine ⟨fun S α0 H0 α σ H D b g ev f => h.run S α0 H0 (α.take n) σ H D b ?_ ⟨ev.em.take n, ev.len, fun i a hi => ?_⟩ f⟩
  · obtain ⟨β, e, g1⟩ := g
    subst e
    refine ⟨β.take (n - α0.length), ?_, g1.kp, g1.st, fun l hl => g1.fr l (List.mem_of_mem_take hl)⟩
    rw [List.take_append, List.take_of_length_le (by rw [b.len]; exact hn)]
  · obtain ⟨v, h1, h2⟩ := ev.sl i a hi
    refine ⟨v, h1, ?_⟩
    cases a with
    | d x => exact Rep.less (fun z hz => av_less (fun l hl => List.mem_of_mem_take hl) hz) (show Rep C.W (Av S α) H x v from h2)
    | m k =>
      obtain ⟨p, l, hp, e⟩ := (show ∃ p l, α[k]? = some (p :: l) ∧ v = .ref p from h2)
      exact ⟨p, l, by rw [List.getElem?_take_of_lt (hρ i k hi)]; exact hp, e⟩
end
end Dl

/-! DL3: rules of expressions, tests, calls over data. -/
namespace Dl
open PySem L2

section
variable {C : Ctx} {S : Addr → Prop} {α β : Als} {H H1 : Hp} {Ψ : AV → Mm → Prop} {Q : VK}
abbrev PostE (C : Ctx) (S : Addr → Prop) (α : Als) (H : Hp) (Ψ : AV → Mm → Prop) (Q : VK) : Prop :=
  ∀ a M' β v H', Ψ a M' → EM C.W S (α ++ β) M' H' → Gr α β H H' → RepA C.W S (α ++ β) H' a v → Q v H'
abbrev PostT (C : Ctx) (S : Addr → Prop) (α : Als) (H : Hp) (Ψ : Bool → Mm → Prop) (Q : Bool → Hp → Prop) : Prop :=
  ∀ b M' β H', Ψ b M' → EM C.W S (α ++ β) M' H' → Gr α β H H' → Q b H'
abbrev PostA (C : Ctx) (S : Addr → Prop) (α : Als) (H : Hp) (Ψ : List AV → Mm → Prop) (Q : List V → Hp → Prop) : Prop :=
  ∀ as M' β vs H', Ψ as M' → EM C.W S (α ++ β) M' H' → Gr α β H H' → RepsA C.W S (α ++ β) H' as vs → Q vs H'
theorem thnE (q : PostE C S α H Ψ Q) (g : Gr α β H H1) : PostE C S (α ++ β) H1 Ψ Q := fun a M' γ v H' p em g2 r =>
  q a M' (β ++ γ) v H' p (by rw [← List.append_assoc]; exact em) (g.trans g2) (by rw [← List.append_assoc]; exact r)
theorem thnT {Ψ : Bool → Mm → Prop} {Q : Bool → Hp → Prop} (q : PostT C S α H Ψ Q) (g : Gr α β H H1) : PostT C S (α ++ β) H1 Ψ Q := fun b M' γ H' p em g2 =>
  q b M' (β ++ γ) H' p (by rw [← List.append_assoc]; exact em) (g.trans g2)
theorem thnA {Ψ : List AV → Mm → Prop} {Q : List V → Hp → Prop} (q : PostA C S α H Ψ Q) (g : Gr α β H H1) : PostA C S (α ++ β) H1 Ψ Q := fun as M' γ vs H' p em g2 r =>
  q as M' (β ++ γ) vs H' p (by rw [← List.append_assoc]; exact em) (g.trans g2) (by rw [← List.append_assoc]; exact r)
/-- nothing is changed -/
theorem stayE {M : Mm} {a : AV} {v : V} (em : EM C.W S α M H) (q : PostE C S α H Ψ Q) (r : RepA C.W S α H a v) (h : Ψ a M) : Q v H :=
  q a M [] v H h (by rw [app_nil]; exact em) Gr.refl (by rw [app_nil]; exact r)
theorem stayT {M : Mm} {b : Bool} {Ψ : Bool → Mm → Prop} {Q : Bool → Hp → Prop} (em : EM C.W S α M H) (q : PostT C S α H Ψ Q) (h : Ψ b M) : Q b H :=
  q b M [] H h (by rw [app_nil]; exact em) Gr.refl
/-- a new object is laid that is a value -/
theorem newE {M : Mm} {x : D} {v : V} {p : Addr} {o : HO} (em : EM C.W S α M H) (q : PostE C S α H Ψ Q) (hp : H p = none) (r : Rep C.W (Av S α) (upd H p o) x v) (h : Ψ (.d x) M) : Q v (upd H p o) :=
  q (.d x) M [] v _ h (em.on' (same_new hp)) (Gr.same (same_new hp)) (show Rep C.W (Av S (α ++ [])) _ x v by rw [app_nil]; exact r)
/-- a new object is laid that is a new thing of the store -/
theorem newM {M : Mm} {m : MO} {p : Addr} {o : HO} (em : EM C.W S α M H) (q : PostE C S α H Ψ Q) (hp : H p = none) (r : MRep C.W (Av S (α ++ [[p]])) (upd H p o) m [p]) (h : Ψ (.m M.length) (M ++ [m])) : Q (.ref p) (upd H p o) := by
  have sm := same_new (o := o) hp
  have g : Gr α [[p]] H (upd H p o) := ⟨fun b o _ e => sm b o e, (Gr.same (α := α) sm).st, fun l hl b hb => by
    simp at hl; subst hl; simp at hb; subst hb; exact hp⟩
  refine q (.m M.length) (M ++ [m]) [[p]] (.ref p) _ h ⟨paired_app ?_ (.cons r .nil), ?_, fun b hb => g.st b (em.trk b hb)⟩ g ⟨p, [], ?_, rfl⟩
  · refine Paired.mapP em.rep fun m l r => r.tr (fun b hb => ?_) (fun b o _ e => sm b o e) fun b o _ e => sm b o e
    rcases av_app hb with z | ⟨l, hl, z⟩
    · exact .inl z
    · exact .inr (g.fr l hl b z)
  · rw [List.flatten_append, List.nodup_append]
    refine ⟨em.nd, by simp, fun a ha b hb e => ?_⟩
    simp at hb
    subst hb
    subst e
    obtain ⟨l, hl, hb⟩ := List.mem_flatten.mp ha
    exact em.trA a (.inr ⟨l, hl, hb⟩) hp
  · rw [em.len, List.getElem?_append_right (Nat.le_refl _)]
    simp
end

section
variable {P : Program} {w : World} {K : PySem.W.Frag} {mg : Str → Option Value} {base : Heap} {N gs : List Str} {Vi Li : List Nat} {k : Nat}
variable {C : Ctx} {e e2 a b c : Expr} {es : List Expr} {st : Stmt} {sts : List Stmt} {ρ : Rho} {M : Mm} {Φ : Kn} {Ψ : AV → Mm → Prop} {x : Str} {pos p : Pos}

/-! ### names, constants -/
theorem we_var (ok : Cok C P w K mg base N gs Vi Li k) (i : Nat) {v : AV} (hN : N[i]? = some x) (hV : i ∈ Vi) (hρ : ρ[i]? = some (some v)) (h : Ψ v M) (hd : (x == ("__debug__" : Str)) = false := by decide) (hcd : (x == ("__classdict__" : Str)) = false := by decide) : WE C (.Name x pos) ρ M Ψ := by
  refine ⟨fun S α0 H0 α σ H Q b g ev q => uE_of (pe_var (i := i) (by rw [ok.nE]; exact hN) (ok.vis i x hV hN) hd hcd) ?_⟩
  obtain ⟨u, h1, h2⟩ := ev.sl i v hρ
  exact ⟨u, h1, stayE ev.em q h2 h⟩
theorem we_int {i : Int} {j : Nat} (h : Ψ (.d (.int i)) M) : WE C (.Constant (.int i) j pos) ρ M Ψ :=
  ⟨fun S α0 H0 α σ H Q b g ev q => uE_of pe_int (stayE (a := .d (.int i)) (v := .int i) ev.em q rfl h)⟩
theorem we_bl {i : Bool} {j : Nat} (h : Ψ (.d (.bl i)) M) : WE C (.Constant (.bool i) j pos) ρ M Ψ :=
  ⟨fun S α0 H0 α σ H Q b g ev q => uE_of pe_bl (stayE (a := .d (.bl i)) (v := .bl i) ev.em q rfl h)⟩
theorem we_non {j : Nat} (h : Ψ (.d .non) M) : WE C (.Constant .none j pos) ρ M Ψ :=
  ⟨fun S α0 H0 α σ H Q b g ev q => uE_of pe_non (stayE (a := .d .non) (v := .non) ev.em q rfl h)⟩
theorem we_str {i : Str} {j : Nat} (h : Ψ (.d (.str i)) M) : WE C (.Constant (.str i) j pos) ρ M Ψ :=
  ⟨fun S α0 H0 α σ H Q b g ev q => uE_of pe_str (stayE (a := .d (.str i)) (v := .str i) ev.em q rfl h)⟩
/-- a constant of the module that is an int -/
theorem we_globI (ok : Cok C P w K mg base N gs Vi Li k) (i : Nat) {n : Int} {t : Tok} (hN : gs[i]? = some x) (hm : mg x = some (.int n t)) (h : Ψ (.d (.int n)) M) (hd : (x == ("__debug__" : Str)) = false := by decide) : WE C (.Name x pos) ρ M Ψ :=
  ⟨fun S α0 H0 α σ H Q b g ev q => uE_of (pe_glob (v := .int n) (ok.gl i x hN) (by rw [ok.mgE]; exact hm) ⟨_, rfl⟩ hd) (stayE (a := .d (.int n)) (v := .int n) ev.em q rfl h)⟩
theorem we_globS (ok : Cok C P w K mg base N gs Vi Li k) (i : Nat) {n : Str} {t : Tok} (hN : gs[i]? = some x) (hm : mg x = some (.str n t)) (h : Ψ (.d (.str n)) M) (hd : (x == ("__debug__" : Str)) = false := by decide) : WE C (.Name x pos) ρ M Ψ :=
  ⟨fun S α0 H0 α σ H Q b g ev q => uE_of (pe_glob (v := .str n) (ok.gl i x hN) (by rw [ok.mgE]; exact hm) ⟨_, rfl⟩ hd) (stayE (a := .d (.str n)) (v := .str n) ev.em q rfl h)⟩
/-- a class of the text, a built-in type, as values -/
theorem we_globR (ok : Cok C P w K mg base N gs Vi Li k) (i : Nat) {n : Addr} (hN : gs[i]? = some x) (hm : mg x = some (.ref n)) (h : Ψ (.d (.fn n)) M) (hd : (x == ("__debug__" : Str)) = false := by decide) : WE C (.Name x pos) ρ M Ψ :=
  ⟨fun S α0 H0 α σ H Q b g ev q => uE_of (pe_glob (v := .ref n) (ok.gl i x hN) (by rw [ok.mgE]; exact hm) rfl hd) (stayE (a := .d (.fn n)) (v := .ref n) ev.em q rfl h)⟩
theorem we_ty (ok : Cok C P w K mg base N gs Vi Li k) (i : Nat) {n : String} (hN : gs[i]? = some x) (hm : mg x = none) (hv : bootBuiltins x = some (.type n)) (h : Ψ (.d (.ty n)) M) (hn : x ≠ "__name__" := by decide) (hd : (x == ("__debug__" : Str)) = false := by decide) : WE C (.Name x pos) ρ M Ψ :=
  ⟨fun S α0 H0 α σ H Q b g ev q => uE_of (pe_bltn (v := .ty n) (ok.gl i x hN) (by rw [ok.mgE]; exact hm) hv rfl hn hd) (stayE (a := .d (.ty n)) (v := .ty n) ev.em q rfl h)⟩

/-! ### operators -/
theorem we_bin {op : Operator} (h : WE C a ρ M fun x M1 => WE C b ρ M1 fun y M2 => WO C (binaryOp op) x y M2 Ψ) : WE C (.BinOp a op b pos) ρ M Ψ := by
  refine ⟨fun S α0 H0 α σ H Q bs g ev q => uE_of (pe_op op_u pe_u pe_u) ?_⟩
  refine h.run S α0 H0 α σ H _ bs g ev fun x M1 β1 v H1 p1 em1 g1 r1 => ?_
  refine p1.run S α0 H0 (α ++ β1) σ H1 _ bs (g.trans g1) (ev.up g1 em1) fun y M2 β2 u H2 p2 em2 g2 r2 => ?_
  exact p2.run S (α ++ β1 ++ β2) H2 Q v u em2 (r1.up g2) r2 (thnE (thnE q g1) g2)
theorem we_un {op : UnaryOp} (h : WE C a ρ M fun x M1 => WU C (unaryOp op) x M1 Ψ) : WE C (.UnaryOp op a pos) ρ M Ψ := by
  refine ⟨fun S α0 H0 α σ H Q bs g ev q => uE_of (pe_un un_u pe_u) ?_⟩
  refine h.run S α0 H0 α σ H _ bs g ev fun x M1 β1 v H1 p1 em1 g1 r1 => ?_
  exact p1.run S (α ++ β1) H1 Q v em1 r1 (thnE q g1)
theorem we_cmp {op : CmpOp} (h : WE C a ρ M fun x M1 => WE C b ρ M1 fun y M2 => WO C (compareOp op) x y M2 Ψ) (hm : behindInMarks op b = false := by first | exact nomark _ | with_unfolding_all rfl) : WE C (.Compare a [op] [b] pos) ρ M Ψ := by
  refine ⟨fun S α0 H0 α σ H Q bs g ev q => uE_of (pe_cmpR op_u pe_u pe_u hm) ?_⟩
  refine h.run S α0 H0 α σ H _ bs g ev fun x M1 β1 v H1 p1 em1 g1 r1 => ?_
  refine p1.run S α0 H0 (α ++ β1) σ H1 _ bs (g.trans g1) (ev.up g1 em1) fun y M2 β2 u H2 p2 em2 g2 r2 => ?_
  exact p2.run S (α ++ β1 ++ β2) H2 Q v u em2 (r1.up g2) r2 (thnE (thnE q g1) g2)
/-- a bool as a value -/
def isB (a : AV) (R : Bool → Prop) : Prop := match a with
  | .d (.bl b) => R b
  | _ => False
theorem isB_of {a : AV} {v : V} {R : Bool → Prop} {W : Wd} {S : Addr → Prop} (h : isB a R) (r : RepA W S α H a v) : ∃ b, v = .bl b ∧ R b := by
  cases a with
  | d x => cases x with
    | bl b => exact ⟨b, r, h⟩
    | _ => exact False.elim h
  | m k => exact False.elim h
theorem wt_cmp {Ψ : Bool → Mm → Prop} {op : CmpOp} (h : WE C a ρ M fun x M1 => WE C b ρ M1 fun y M2 => WO C (compareOp op) x y M2 fun r M3 => isB r fun t => Ψ t M3) (hm : behindInMarks op b = false := by first | exact nomark _ | with_unfolding_all rfl) : WT C (.Compare a [op] [b] pos) ρ M Ψ := by
  refine ⟨fun S α0 H0 α σ H Q bs g ev q => uT_of (pt_cmpR op_u pe_u pe_u hm) ?_⟩
  refine h.run S α0 H0 α σ H _ bs g ev fun x M1 β1 v H1 p1 em1 g1 r1 => ?_
  refine p1.run S α0 H0 (α ++ β1) σ H1 _ bs (g.trans g1) (ev.up g1 em1) fun y M2 β2 u H2 p2 em2 g2 r2 => ?_
  refine p2.run S (α ++ β1 ++ β2) H2 _ v u em2 (r1.up g2) r2 fun r M3 β3 z H3 p3 em3 g3 r3 => ?_
  obtain ⟨t, e, hh⟩ := isB_of p3 r3
  exact ⟨t, e, (thnT (thnT q g1) g2) t M3 β3 H3 hh em3 g3⟩
theorem we_chain {op op' : CmpOp} (h : WE C a ρ M fun x M1 => WE C b ρ M1 fun y M2 => WO C (compareOp op) x y M2 fun r M3 => isB r fun t => (t = false → Ψ (.d (.bl false)) M3) ∧ (t = true → WE C c ρ M3 fun z M4 => WO C (compareOp op') y z M4 Ψ))
    (hm : lastMarks [op, op'] [b, c] = false := by with_unfolding_all rfl) : WE C (.Compare a [op, op'] [b, c] pos) ρ M Ψ := by
  refine ⟨fun S α0 H0 α σ H Q bs g ev q => uE_of (pe_chain op_u op_u pe_u pe_u pe_u hm) ?_⟩
  refine h.run S α0 H0 α σ H _ bs g ev fun x M1 β1 v H1 p1 em1 g1 r1 => ?_
  refine p1.run S α0 H0 (α ++ β1) σ H1 _ bs (g.trans g1) (ev.up g1 em1) fun y M2 β2 u H2 p2 em2 g2 r2 => ?_
  refine p2.run S (α ++ β1 ++ β2) H2 _ v u em2 (r1.up g2) r2 fun r M3 β3 z H3 p3 em3 g3 r3 => ?_
  obtain ⟨t, e, hh⟩ := isB_of p3 r3
  refine ⟨t, e, ?_⟩
  have q3 := thnE (thnE (thnE q g1) g2) g3
  cases t with
  | false => exact stayE (a := .d (.bl false)) (v := .bl false) em3 q3 rfl (hh.1 rfl)
  | true =>
    refine (hh.2 rfl).run S α0 H0 (α ++ β1 ++ β2 ++ β3) σ H3 _ bs (((g.trans g1).trans g2).trans g3) ((((ev.up g1 em1).up g2 em2)).up g3 em3) fun z' M4 β4 w' H4 p4 em4 g4 r4 => ?_
    exact p4.run S _ H4 Q u w' em4 ((r2.up g3).up g4) r4 (thnE q3 g4)
/-- a value's truth, of what may stand in a test -/
theorem wt_val {Ψ : Bool → Mm → Prop} (h : WE C e ρ M fun r M1 => isB r fun t => Ψ t M1) (he : ∀ whole, isTrue e C.X.env whole = (do let v ← whole; standAt e.pos; holding [v] (truthy v)) := by intro _; rfl) : WT C e ρ M Ψ := by
  refine ⟨fun S α0 H0 α σ H Q bs g ev q => uT_of (pt_val pe_u he) ?_⟩
  refine h.run S α0 H0 α σ H _ bs g ev fun x M1 β1 v H1 p1 em1 g1 r1 => ?_
  obtain ⟨t, e, hh⟩ := isB_of p1 r1
  exact ⟨t, e, q t M1 β1 H1 hh em1 g1⟩
theorem wt_not {Ψ : Bool → Mm → Prop} (h : WT C a ρ M fun t M1 => Ψ (!t) M1) : WT C (.UnaryOp .Not a pos) ρ M Ψ := by
  refine ⟨fun S α0 H0 α σ H Q bs g ev q => uT_of (pt_not pt_u) ?_⟩
  exact h.run S α0 H0 α σ H _ bs g ev fun b M' β H' p em g => q (!b) M' β H' p em g
/-- and, or in a test: the rest is a test again -/
structure WTw (C : Ctx) (e : Expr) (ρ : Rho) (M : Mm) (Ψ : Bool → Mm → Prop) : Prop where
  run : ∀ S α0 H0 α σ H (Q : Bool → Hp → Prop), Bs C S α0 H0 → Gr0 α0 α H0 H → Ev C.W S α ρ M σ H → PostT C S α H Ψ Q → ∀ whole pins s, Inv C.X pins σ H s → wpAny (model C.X.prog C.X.w) C.X.A (isTrue e C.X.env whole) (TP C.X pins σ Q) C.X.xe s
def uW (X : Cx) (e : Expr) : TT := fun σ H Q => ∀ whole pins s, Inv X pins σ H s → wpAny (model X.prog X.w) X.A (isTrue e X.env whole) (TP X pins σ Q) X.xe s
theorem pw_u {X : Cx} {e : Expr} : PW X e (uW X e) := ⟨fun wh pins s _ _ _ I h => h wh pins s I⟩
theorem uW_of {X : Cx} {e : Expr} {t : TT} {σ : L2.St} {H : Hp} {Q : Bool → Hp → Prop} (p : PW X e t) (h : t σ H Q) : uW X e σ H Q := fun wh pins s I => p.run wh pins s σ H Q I h
theorem wt_w {Ψ : Bool → Mm → Prop} (h : WTw C e ρ M Ψ) : WT C e ρ M Ψ := ⟨fun S α0 H0 α σ H Q bs g ev q => uT_of pw_u.pt (h.run S α0 H0 α σ H Q bs g ev q)⟩
theorem ww_and1 {Ψ : Bool → Mm → Prop} (h : WT C a ρ M Ψ) : WTw C (.BoolOp .And [a] pos) ρ M Ψ := ⟨fun S α0 H0 α σ H Q bs g ev q => uW_of (pw_and1 pt_u) (h.run S α0 H0 α σ H Q bs g ev q)⟩
theorem ww_or1 {Ψ : Bool → Mm → Prop} (h : WT C a ρ M Ψ) : WTw C (.BoolOp .Or [a] pos) ρ M Ψ := ⟨fun S α0 H0 α σ H Q bs g ev q => uW_of (pw_or1 pt_u) (h.run S α0 H0 α σ H Q bs g ev q)⟩
theorem ww_and {Ψ : Bool → Mm → Prop} (h : WT C a ρ M fun t M1 => (t = false → Ψ false M1) ∧ (t = true → WTw C (.BoolOp .And (b :: es) pos) ρ M1 Ψ)) : WTw C (.BoolOp .And (a :: b :: es) pos) ρ M Ψ := by
  refine ⟨fun S α0 H0 α σ H Q bs g ev q => uW_of (pw_and pt_u pw_u) ?_⟩
  refine h.run S α0 H0 α σ H _ bs g ev fun t M1 β1 H1 p1 em1 g1 => ?_
  cases t with
  | false => exact stayT em1 (thnT q g1) (p1.1 rfl)
  | true => exact (p1.2 rfl).run S α0 H0 _ σ H1 Q bs (g.trans g1) (ev.up g1 em1) (thnT q g1)
theorem ww_or {Ψ : Bool → Mm → Prop} (h : WT C a ρ M fun t M1 => (t = true → Ψ true M1) ∧ (t = false → WTw C (.BoolOp .Or (b :: es) pos) ρ M1 Ψ)) : WTw C (.BoolOp .Or (a :: b :: es) pos) ρ M Ψ := by
  refine ⟨fun S α0 H0 α σ H Q bs g ev q => uW_of (pw_or pt_u pw_u) ?_⟩
  refine h.run S α0 H0 α σ H _ bs g ev fun t M1 β1 H1 p1 em1 g1 => ?_
  cases t with
  | true => exact stayT em1 (thnT q g1) (p1.1 rfl)
  | false => exact (p1.2 rfl).run S α0 H0 _ σ H1 Q bs (g.trans g1) (ev.up g1 em1) (thnT q g1)
/-- the same as values: bools -/
theorem we_bool1 {op : BoolOp} (h : WE C a ρ M Ψ) : WE C (.BoolOp op [a] pos) ρ M Ψ := ⟨fun S α0 H0 α σ H Q bs g ev q => uE_of (pe_one pe_u) (h.run S α0 H0 α σ H Q bs g ev q)⟩
theorem we_and (h : WE C a ρ M fun r M1 => isB r fun t => (t = false → Ψ (.d (.bl false)) M1) ∧ (t = true → WE C (.BoolOp .And (b :: es) pos) ρ M1 Ψ)) : WE C (.BoolOp .And (a :: b :: es) pos) ρ M Ψ := by
  refine ⟨fun S α0 H0 α σ H Q bs g ev q => uE_of (pe_and pe_u pe_u) ?_⟩
  refine h.run S α0 H0 α σ H _ bs g ev fun x M1 β1 v H1 p1 em1 g1 r1 => ?_
  obtain ⟨t, e, hh⟩ := isB_of p1 r1
  refine ⟨t, e, ?_⟩
  cases t with
  | false => exact stayE (a := .d (.bl false)) (v := .bl false) em1 (thnE q g1) rfl (hh.1 rfl)
  | true => exact (hh.2 rfl).run S α0 H0 _ σ H1 Q bs (g.trans g1) (ev.up g1 em1) (thnE q g1)
theorem we_or (h : WE C a ρ M fun r M1 => isB r fun t => (t = true → Ψ (.d (.bl true)) M1) ∧ (t = false → WE C (.BoolOp .Or (b :: es) pos) ρ M1 Ψ)) : WE C (.BoolOp .Or (a :: b :: es) pos) ρ M Ψ := by
  refine ⟨fun S α0 H0 α σ H Q bs g ev q => uE_of (pe_or pe_u pe_u) ?_⟩
  refine h.run S α0 H0 α σ H _ bs g ev fun x M1 β1 v H1 p1 em1 g1 r1 => ?_
  obtain ⟨t, e, hh⟩ := isB_of p1 r1
  refine ⟨t, e, ?_⟩
  cases t with
  | true => exact stayE (a := .d (.bl true)) (v := .bl true) em1 (thnE q g1) rfl (hh.1 rfl)
  | false => exact (hh.2 rfl).run S α0 H0 _ σ H1 Q bs (g.trans g1) (ev.up g1 em1) (thnE q g1)
theorem we_not (h : WE C a ρ M fun r M1 => isB r fun t => Ψ (.d (.bl (!t))) M1) : WE C (.UnaryOp .Not a pos) ρ M Ψ := by
  refine ⟨fun S α0 H0 α σ H Q bs g ev q => uE_of (L2.pe_not pe_u) ?_⟩
  refine h.run S α0 H0 α σ H _ bs g ev fun x M1 β1 v H1 p1 em1 g1 r1 => ?_
  obtain ⟨t, e, hh⟩ := isB_of p1 r1
  exact ⟨t, e, stayE (a := .d (.bl (!t))) (v := .bl (!t)) em1 (thnE q g1) rfl hh⟩
theorem we_if (h : WT C c ρ M fun t M1 => (t = true → WE C a ρ M1 Ψ) ∧ (t = false → WE C b ρ M1 Ψ)) : WE C (.IfExp c a b pos) ρ M Ψ := by
  refine ⟨fun S α0 H0 α σ H Q bs g ev q => uE_of (pe_ifExp pt_u pe_u pe_u) ?_⟩
  refine h.run S α0 H0 α σ H _ bs g ev fun t M1 β1 H1 p1 em1 g1 => ?_
  cases t with
  | true => exact (p1.1 rfl).run S α0 H0 _ σ H1 Q bs (g.trans g1) (ev.up g1 em1) (thnE q g1)
  | false => exact (p1.2 rfl).run S α0 H0 _ σ H1 Q bs (g.trans g1) (ev.up g1 em1) (thnE q g1)
theorem w1_if {A B : List Stmt} (h : WT C c ρ M fun t M1 => (t = true → WS C A ρ M1 Φ) ∧ (t = false → WS C B ρ M1 Φ)) : W1 C (.If c A B pos) ρ M Φ := by
  refine ⟨fun S α0 H0 α σ H D bs g ev f => uS_of (ps_if pt_u pss_u pss_u) ?_⟩
  refine h.run S α0 H0 α σ H _ bs g ev fun t M1 β1 H1 p1 em1 g1 => ?_
  cases t with
  | true => exact (p1.1 rfl).run S α0 H0 _ σ H1 D bs (g.trans g1) (ev.up g1 em1) f
  | false => exact (p1.2 rfl).run S α0 H0 _ σ H1 D bs (g.trans g1) (ev.up g1 em1) f

/-! ### arguments, displays -/
theorem wa_nil {Ψ : List AV → Mm → Prop} (h : Ψ [] M) : WA C [] ρ M Ψ :=
  ⟨fun S α0 H0 α σ H Q bs g ev q => uA_of pa_nil (q [] M [] [] H h (by rw [app_nil]; exact ev.em) Gr.refl rfl)⟩
theorem wa_cons {Ψ : List AV → Mm → Prop} (h : WE C e ρ M fun x M1 => WA C es ρ M1 fun xs M2 => Ψ (x :: xs) M2) (hs : starEach (e :: es) C.X.env = (false, eval e C.X.env) :: starEach es C.X.env := by rfl) : WA C (e :: es) ρ M Ψ := by
  refine ⟨fun S α0 H0 α σ H Q bs g ev q => uA_of (pa_cons pe_u pa_u hs) ?_⟩
  refine h.run S α0 H0 α σ H _ bs g ev fun x M1 β1 v H1 p1 em1 g1 r1 => ?_
  refine p1.run S α0 H0 (α ++ β1) σ H1 _ bs (g.trans g1) (ev.up g1 em1) fun xs M2 β2 us H2 p2 em2 g2 r2 => ?_
  exact (thnA q g1) (x :: xs) M2 β2 (v :: us) H2 p2 em2 g2 ⟨v, us, rfl, r1.up g2, r2⟩
/-- all of them values -/
def unD : List AV → Option (List D)
  | [] => some []
  | .d x :: r => (unD r).map (x :: ·)
  | _ => none
def allD (as : List AV) (R : List D → Prop) : Prop := match unD as with
  | some ds => R ds
  | none => False
theorem unD_rep {W : Wd} {S : Addr → Prop} : ∀ {as : List AV} {ds : List D} {vs : List V}, unD as = some ds → RepsA W S α H as vs → Reps W (Av S α) H ds vs
  | [], ds, vs, e, r => by cases e; exact r
  | .d x :: as, ds, vs, e, r => by
    obtain ⟨v, r, ev, h, t⟩ := (show ∃ v r, vs = v :: r ∧ RepA W S α H (.d x) v ∧ RepsA W S α H as r from r)
    have e' : (unD as).map (x :: ·) = some ds := e
    cases q : unD as with
    | none => rw [q] at e'; cases e'
    | some es =>
      rw [q] at e'; cases e'
      exact ⟨v, r, ev, h, unD_rep q t⟩
  | .m k :: as, ds, vs, e, r => by cases e
theorem allD_of {W : Wd} {S : Addr → Prop} {as : List AV} {R : List D → Prop} {vs : List V} (h : allD as R) (r : RepsA W S α H as vs) : ∃ ds, unD as = some ds ∧ R ds ∧ Reps W (Av S α) H ds vs := by
  cases q : unD as with
  | none => unfold allD at h; rw [q] at h; exact h.elim
  | some ds => unfold allD at h; rw [q] at h; exact ⟨ds, rfl, h, unD_rep q r⟩
theorem we_tup {x1 : Nat} (h : WA C es ρ M fun as M1 => allD as fun ds => ds.length ≤ 1000 ∧ Ψ (.d (.tup ds)) M1) : WE C (.Tuple es x1 pos) ρ M Ψ := by
  refine ⟨fun S α0 H0 α σ H Q bs g ev q => uE_of (pe_tup pa_u) ?_⟩
  refine h.run S α0 H0 α σ H _ bs g ev fun as M1 β1 vs H1 p1 em1 g1 r1 => ?_
  obtain ⟨ds, _, ⟨hl, hh⟩, r⟩ := allD_of p1 r1
  have e := reps_len r
  refine ⟨by rw [sizeLine_eq]; omega, fun p hp => newE (x := .tup ds) em1 (thnE q g1) hp ⟨p, vs, rfl, TSq.of (em1.off hp) upd_same, ?_⟩ hh⟩
  exact Reps.tr (fun _ z => .inl z) (fun b o _ => same_new hp b o) _ _ r
theorem we_lst (h : WA C es ρ M fun as M1 => allD as fun ds => ds.length ≤ 1000 ∧ Ψ (.m M1.length) (M1 ++ [.l ds])) : WE C (.List es pos) ρ M Ψ := by
  refine ⟨fun S α0 H0 α σ H Q bs g ev q => uE_of (pe_lst pa_u) ?_⟩
  refine h.run S α0 H0 α σ H _ bs g ev fun as M1 β1 vs H1 p1 em1 g1 r1 => ?_
  obtain ⟨ds, _, ⟨hl, hh⟩, r⟩ := allD_of p1 r1
  have e := reps_len r
  refine ⟨by rw [sizeLine_eq]; omega, fun p hp => newM (m := .l ds) em1 (thnE q g1) hp ⟨p, vs, rfl, upd_same, ?_⟩ hh⟩
  refine Reps.tr (fun b z => ?_) (fun b o _ => same_new hp b o) _ _ r
  rcases av_app z with z | ⟨l, hl, z⟩
  · exact .inl z
  · simp at hl; subst hl; simp at z; subst z; exact .inr hp
/-- what was made on the way is let go: a new list is a value from here on -/
theorem we_clo (h : WE C e ρ M fun a M1 => Clo M.length a M1 Ψ) : WE C e ρ M Ψ := by
  refine ⟨fun S α0 H0 α σ H Q bs g ev q => ?_⟩
  refine h.run S α0 H0 α σ H _ bs g ev fun a M1 β1 v H1 p1 em1 g1 r1 => ?_
  obtain ⟨c, M', α', hh, he, ⟨γ, eγ, gγ⟩, hr⟩ : ∃ a' M' α', Ψ a' M' ∧ EM C.W S α' M' H1 ∧ Gr0 α α' H H1 ∧ RepA C.W S α' H1 a' v :=
    clo_ok (C := { C with n0 := M.length, T := fun _ _ _ _ => False }) ⟨ev.em.len.symm, ev.em.trA, fun _ _ _ _ => False, (fun _ _ ⟨_, _, _, _, _, _, _, _, _, _, _, _, _, _, _, _, z⟩ => z.elim), fun _ _ _ _ _ _ _ _ _ z => z.elim⟩ ⟨β1, rfl, g1⟩ em1 r1 p1
  subst eγ
  exact q c M' γ v H1 hh he gγ hr
end
end Dl

/-! DL4: operators, built-in calls, subscripts, stores by values. -/
namespace Dl
open PySem L2

section
variable {C : Ctx} {M : Mm} {Ψ : AV → Mm → Prop} {f : Value → Value → Sem Value}
/-! ### ints -/
theorem wo_int {Cn : Int → Int → Prop} {g : Int → Int → Int} {i j : Int} (p : OpR C.X f (rI Cn fun i j => .int (g i j))) (hc : Cn i j) (h : Ψ (.d (.int (g i j))) M) : WO C f (.d (.int i)) (.d (.int j)) M Ψ :=
  ⟨fun S α H Q v u em r1 r2 q => uO_of p ⟨i, j, r1, r2, hc, stayE (a := .d (.int (g i j))) (v := .int (g i j)) em q rfl h⟩⟩
theorem wo_int0 {g : Int → Int → Int} {i j : Int} (p : OpR C.X f (rI0 fun i j => .int (g i j))) (h : Ψ (.d (.int (g i j))) M) : WO C f (.d (.int i)) (.d (.int j)) M Ψ :=
  ⟨fun S α H Q v u em r1 r2 q => uO_of p ⟨i, j, r1, r2, stayE (a := .d (.int (g i j))) (v := .int (g i j)) em q rfl h⟩⟩
theorem wo_bl0 {g : Int → Int → Bool} {i j : Int} (p : OpR C.X f (rI0 fun i j => .bl (g i j))) (h : Ψ (.d (.bl (g i j))) M) : WO C f (.d (.int i)) (.d (.int j)) M Ψ :=
  ⟨fun S α H Q v u em r1 r2 q => uO_of p ⟨i, j, r1, r2, stayE (a := .d (.bl (g i j))) (v := .bl (g i j)) em q rfl h⟩⟩
variable {i j : Int}
theorem wo_add (h : Ψ (.d (.int (i + j))) M) : WO C (binaryOp .Add) (.d (.int i)) (.d (.int j)) M Ψ := wo_int0 (g := fun i j => i + j) op_add h
theorem wo_sub (h : Ψ (.d (.int (i - j))) M) : WO C (binaryOp .Sub) (.d (.int i)) (.d (.int j)) M Ψ := wo_int0 (g := fun i j => i - j) op_sub h
theorem wo_mul (hc : CMul i j) (h : Ψ (.d (.int (i * j))) M) : WO C (binaryOp .Mult) (.d (.int i)) (.d (.int j)) M Ψ := wo_int (g := fun i j => i * j) op_mul hc h
theorem wo_mulW (hc : CMulW i j) (h : Ψ (.d (.int (i * j))) M) : WO C (binaryOp .Mult) (.d (.int i)) (.d (.int j)) M Ψ := wo_int (g := fun i j => i * j) op_mulW hc h
theorem wo_fdiv (hc : CDiv i j) (h : Ψ (.d (.int (i / j))) M) : WO C (binaryOp .FloorDiv) (.d (.int i)) (.d (.int j)) M Ψ := wo_int (g := fun i j => i / j) op_fdiv hc h
theorem wo_fdivW (hc : CDivW i j) (h : Ψ (.d (.int (i / j))) M) : WO C (binaryOp .FloorDiv) (.d (.int i)) (.d (.int j)) M Ψ := wo_int (g := fun i j => i / j) op_fdivW hc h
theorem wo_mod (hc : 0 < j) (h : Ψ (.d (.int (i % j))) M) : WO C (binaryOp .Mod) (.d (.int i)) (.d (.int j)) M Ψ := wo_int (Cn := fun _ j => 0 < j) (g := fun i j => i % j) op_mod hc h
theorem wo_pow (hc : CPow i j) (h : Ψ (.d (.int (i ^ j.toNat))) M) : WO C (binaryOp .Pow) (.d (.int i)) (.d (.int j)) M Ψ := wo_int (g := fun i j => i ^ j.toNat) op_pow hc h
theorem wo_shl (hc : CPow i j) (h : Ψ (.d (.int (i * 2 ^ j.toNat))) M) : WO C (binaryOp .LShift) (.d (.int i)) (.d (.int j)) M Ψ := wo_int (g := fun i j => i * 2 ^ j.toNat) op_shl hc h
theorem wo_lt (h : Ψ (.d (.bl (decide (i < j)))) M) : WO C (compareOp .Lt) (.d (.int i)) (.d (.int j)) M Ψ := wo_bl0 (g := fun i j => decide (i < j)) op_lt h
theorem wo_le (h : Ψ (.d (.bl (decide (i ≤ j)))) M) : WO C (compareOp .LtE) (.d (.int i)) (.d (.int j)) M Ψ := wo_bl0 (g := fun i j => decide (i ≤ j)) op_le h
theorem wo_gt (h : Ψ (.d (.bl (decide (j < i)))) M) : WO C (compareOp .Gt) (.d (.int i)) (.d (.int j)) M Ψ := wo_bl0 (g := fun i j => decide (j < i)) op_gt h
theorem wo_ge (h : Ψ (.d (.bl (decide (j ≤ i)))) M) : WO C (compareOp .GtE) (.d (.int i)) (.d (.int j)) M Ψ := wo_bl0 (g := fun i j => decide (j ≤ i)) op_ge h
theorem dq_int {i j : Int} : decide (V.int i = V.int j) = decide (i = j) := by by_cases h : i = j <;> simp [h]
theorem dq_str {i j : Str} : decide (V.str i = V.str j) = decide (i = j) := by by_cases h : i = j <;> simp [h]
theorem dq_bl {i j : Bool} : decide (V.bl i = V.bl j) = decide (i = j) := by by_cases h : i = j <;> simp [h]
theorem wo_eq (h : Ψ (.d (.bl (decide (i = j)))) M) : WO C (compareOp .Eq) (.d (.int i)) (.d (.int j)) M Ψ :=
  ⟨fun S α H Q v u em r1 r2 q => uO_of op_eq (by rw [show v = .int i from r1, show u = .int j from r2]; exact ⟨rfl, by rw [dq_int]; exact stayE (a := .d (.bl (decide (i = j)))) (v := .bl (decide (i = j))) em q rfl h⟩)⟩
theorem wo_ne (h : Ψ (.d (.bl (!decide (i = j)))) M) : WO C (compareOp .NotEq) (.d (.int i)) (.d (.int j)) M Ψ :=
  ⟨fun S α H Q v u em r1 r2 q => uO_of op_ne (by rw [show v = .int i from r1, show u = .int j from r2]; exact ⟨rfl, by rw [dq_int]; exact stayE (a := .d (.bl (!decide (i = j)))) (v := .bl (!decide (i = j))) em q rfl h⟩)⟩
theorem wo_eqS {i j : Str} (h : Ψ (.d (.bl (decide (i = j)))) M) : WO C (compareOp .Eq) (.d (.str i)) (.d (.str j)) M Ψ :=
  ⟨fun S α H Q v u em r1 r2 q => uO_of op_eq (by rw [show v = .str i from r1, show u = .str j from r2]; exact ⟨rfl, by rw [dq_str]; exact stayE (a := .d (.bl (decide (i = j)))) (v := .bl (decide (i = j))) em q rfl h⟩)⟩
theorem wo_neS {i j : Str} (h : Ψ (.d (.bl (!decide (i = j)))) M) : WO C (compareOp .NotEq) (.d (.str i)) (.d (.str j)) M Ψ :=
  ⟨fun S α H Q v u em r1 r2 q => uO_of op_ne (by rw [show v = .str i from r1, show u = .str j from r2]; exact ⟨rfl, by rw [dq_str]; exact stayE (a := .d (.bl (!decide (i = j)))) (v := .bl (!decide (i = j))) em q rfl h⟩)⟩
theorem wo_eqB {i j : Bool} (h : Ψ (.d (.bl (decide (i = j)))) M) : WO C (compareOp .Eq) (.d (.bl i)) (.d (.bl j)) M Ψ :=
  ⟨fun S α H Q v u em r1 r2 q => uO_of op_eq (by rw [show v = .bl i from r1, show u = .bl j from r2]; exact ⟨rfl, by rw [dq_bl]; exact stayE (a := .d (.bl (decide (i = j)))) (v := .bl (decide (i = j))) em q rfl h⟩)⟩
theorem wo_neB {i j : Bool} (h : Ψ (.d (.bl (!decide (i = j)))) M) : WO C (compareOp .NotEq) (.d (.bl i)) (.d (.bl j)) M Ψ :=
  ⟨fun S α H Q v u em r1 r2 q => uO_of op_ne (by rw [show v = .bl i from r1, show u = .bl j from r2]; exact ⟨rfl, by rw [dq_bl]; exact stayE (a := .d (.bl (!decide (i = j)))) (v := .bl (!decide (i = j))) em q rfl h⟩)⟩
/-- is None -/
def isNon : AV → Bool
  | .d .non => true
  | _ => false
theorem isNon_of {W : Wd} {S : Addr → Prop} {α : Als} {H : Hp} : ∀ {a : AV} {v : V}, RepA W S α H a v → decide (v = .non) = isNon a
  | .m k, v, r => by obtain ⟨p, l, _, e⟩ := (show ∃ p l, α[k]? = some (p :: l) ∧ v = .ref p from r); rw [e]; rfl
  | .d .non, v, r => by rw [show v = .non from r]; rfl
  | .d (.bl b), v, r => by rw [show v = .bl b from r]; rfl
  | .d (.int b), v, r => by rw [show v = .int b from r]; rfl
  | .d (.str b), v, r => by rw [show v = .str b from r]; rfl
  | .d (.fn b), v, r => by rw [show v = .ref b from r]; rfl
  | .d (.ty b), v, r => by rw [show v = .ty b from r]; rfl
  | .d (.tup ds), v, r => by obtain ⟨a, vs, e, _⟩ := (show ∃ a vs, v = .ref a ∧ TSq W (Av S α) H a vs ∧ Reps W (Av S α) H ds vs from r); rw [e]; rfl
  | .d (.lst ds), v, r => by obtain ⟨a, vs, e, _⟩ := (show ∃ a vs, v = .ref a ∧ LSq W (Av S α) H a vs ∧ Reps W (Av S α) H ds vs from r); rw [e]; rfl
  | .d (.ob c ds), v, r => by obtain ⟨a, dx, vs, e, _⟩ := (show ∃ a dx vs, v = .ref a ∧ ¬ Av S α a ∧ H a = some (.ins (W.ca c) dx ((W.cf c).zip vs)) ∧ vs.length = (W.cf c).length ∧ Reps W (Av S α) H ds vs from r); rw [e]; rfl
  | .d (.dk ks ds), v, r => by obtain ⟨a, vs, e, _⟩ := (show ∃ a vs, v = .ref a ∧ ¬ Av S α a ∧ H a = some (.dK (ks.zip vs)) ∧ vs.length = ks.length ∧ Reps W (Av S α) H ds vs from r); rw [e]; rfl
theorem wo_is {a : AV} (h : Ψ (.d (.bl (isNon a))) M) : WO C (compareOp .Is) a (.d .non) M Ψ :=
  ⟨fun S α H Q v u em r1 r2 q => uO_of op_isN ⟨r2, by rw [isNon_of r1]; exact stayE (a := .d (.bl (isNon a))) (v := .bl (isNon a)) em q rfl h⟩⟩
theorem wo_isnot {a : AV} (h : Ψ (.d (.bl (!isNon a))) M) : WO C (compareOp .IsNot) a (.d .non) M Ψ :=
  ⟨fun S α H Q v u em r1 r2 q => uO_of op_notN ⟨r2, by rw [isNon_of r1]; exact stayE (a := .d (.bl (!isNon a))) (v := .bl (!isNon a)) em q rfl h⟩⟩
theorem wu_neg (h : Ψ (.d (.int (-i))) M) : WU C (unaryOp .USub) (.d (.int i)) M Ψ :=
  ⟨fun S α H Q v em r q => uU_of un_neg ⟨i, r, stayE (a := .d (.int (-i))) (v := .int (-i)) em q rfl h⟩⟩
/-! ### texts -/
theorem wo_addS {x y : Str} (hl : x.length + y.length ≤ 1000000) (h : Ψ (.d (.str (x ++ y))) M) : WO C (binaryOp .Add) (.d (.str x)) (.d (.str y)) M Ψ :=
  ⟨fun S α H Q v u em r1 r2 q => uO_of op_add_str ⟨x, y, r1, r2, by rw [sizeLine_eq]; omega, stayE (a := .d (.str (x ++ y))) (v := .str (x ++ y)) em q rfl h⟩⟩
theorem wo_ltS {x y : Str} (h : Ψ (.d (.bl (decide (x.cps.toList < y.cps.toList)))) M) : WO C (compareOp .Lt) (.d (.str x)) (.d (.str y)) M Ψ :=
  ⟨fun S α H Q v u em r1 r2 q => uO_of op_lt_str ⟨x, y, r1, r2, stayE (a := .d (.bl (decide (x.cps.toList < y.cps.toList)))) (v := .bl (decide (x.cps.toList < y.cps.toList))) em q rfl h⟩⟩
/-! ### built-in calls -/
theorem reps1 {W : Wd} {S : Addr → Prop} {α : Als} {H : Hp} {a : AV} {vs : List V} (r : RepsA W S α H [a] vs) : ∃ v, vs = [v] ∧ RepA W S α H a v := by
  obtain ⟨v, r, e, h, t⟩ := (show ∃ v r, vs = v :: r ∧ RepA W S α H a v ∧ RepsA W S α H [] r from r)
  rw [show r = [] from t] at e
  exact ⟨v, e, h⟩
theorem reps2 {W : Wd} {S : Addr → Prop} {α : Als} {H : Hp} {a b : AV} {vs : List V} (r : RepsA W S α H [a, b] vs) : ∃ v u, vs = [v, u] ∧ RepA W S α H a v ∧ RepA W S α H b u := by
  obtain ⟨v, r, e, h, t⟩ := (show ∃ v r, vs = v :: r ∧ RepA W S α H a v ∧ RepsA W S α H [b] r from r)
  obtain ⟨u, e2, h2⟩ := reps1 t
  rw [e2] at e
  exact ⟨v, u, e, h, h2⟩
theorem wc_abs (h : Ψ (.d (.int (if i < 0 then -i else i))) M) : WC C (.builtin "abs") [.d (.int i)] M Ψ :=
  ⟨fun S α H Q vs em r q => by
    obtain ⟨v, e, h1⟩ := reps1 r
    exact uC_of call_abs ⟨i, by rw [e, show v = .int i from h1], stayE (a := .d (.int (if i < 0 then -i else i))) (v := .int (if i < 0 then -i else i)) em q rfl h⟩⟩
theorem wc_max (hcalm : C.X.calm = true) (h : Ψ (.d (.int (if j > i then j else i))) M) : WC C (.builtin "max") [.d (.int i), .d (.int j)] M Ψ :=
  ⟨fun S α H Q vs em r q => by
    obtain ⟨v, u, e, h1, h2⟩ := reps2 r
    exact uC_of (call_max2 hcalm) ⟨i, j, by rw [e, show v = .int i from h1, show u = .int j from h2], stayE (a := .d (.int (if j > i then j else i))) (v := .int (if j > i then j else i)) em q rfl h⟩⟩
theorem wc_min (hcalm : C.X.calm = true) (h : Ψ (.d (.int (if j < i then j else i))) M) : WC C (.builtin "min") [.d (.int i), .d (.int j)] M Ψ :=
  ⟨fun S α H Q vs em r q => by
    obtain ⟨v, u, e, h1, h2⟩ := reps2 r
    exact uC_of (call_min2 hcalm) ⟨i, j, by rw [e, show v = .int i from h1, show u = .int j from h2], stayE (a := .d (.int (if j < i then j else i))) (v := .int (if j < i then j else i)) em q rfl h⟩⟩
theorem wc_int (h : Ψ (.d (.int i)) M) : WC C (.type "int") [.d (.int i)] M Ψ :=
  ⟨fun S α H Q vs em r q => by
    obtain ⟨v, e, h1⟩ := reps1 r
    exact uC_of call_int1 (.inl ⟨i, by rw [e, show v = .int i from h1], stayE (a := .d (.int i)) (v := .int i) em q rfl h⟩)⟩
theorem wc_divmod (hc : CDiv i j) (h : Ψ (.d (.tup [.int (i / j), .int (i % j)])) M) : WC C (.builtin "divmod") [.d (.int i), .d (.int j)] M Ψ :=
  ⟨fun S α H Q vs em r q => by
    obtain ⟨v, u, e, h1, h2⟩ := reps2 r
    refine uC_of call_divmod ⟨i, j, by rw [e, show v = .int i from h1, show u = .int j from h2], hc, fun p hp => ?_⟩
    exact newE (x := .tup [.int (i / j), .int (i % j)]) em q hp ⟨p, _, rfl, TSq.of (em.off hp) upd_same, ⟨_, _, rfl, rfl, _, _, rfl, rfl, rfl⟩⟩ h⟩
/-- the items of a list or tuple, frozen or in the store -/
def seqOf (M : Mm) : AV → Option (List D)
  | .d (.tup ds) => some ds
  | .d (.lst ds) => some ds
  | .m k => match M[k]? with
    | some (.l ds) => some ds
    | _ => none
  | _ => none
theorem seq_rep (wk : C.W.K = C.X.K) {S : Addr → Prop} {α : Als} {H : Hp} (em : EM C.W S α M H) : ∀ {a : AV} {v : V} {ds : List D}, seqOf M a = some ds → RepA C.W S α H a v → ∃ p vs, v = .ref p ∧ (SqL C.X.K H p vs ∨ SqT C.X.K H p vs) ∧ Reps C.W (Av S α) H ds vs
  | .d (.tup es), v, ds, e, r => by
    cases e
    obtain ⟨a, vs, e, t, rr⟩ := (show ∃ a vs, v = .ref a ∧ TSq C.W (Av S α) H a vs ∧ Reps C.W (Av S α) H es vs from r)
    exact ⟨a, vs, e, .inr (wk ▸ t.sq), rr⟩
  | .d (.lst es), v, ds, e, r => by
    cases e
    obtain ⟨a, vs, e, t, rr⟩ := (show ∃ a vs, v = .ref a ∧ LSq C.W (Av S α) H a vs ∧ Reps C.W (Av S α) H es vs from r)
    exact ⟨a, vs, e, .inl (wk ▸ t.sq), rr⟩
  | .m k, v, ds, e, r => by
    obtain ⟨p, l, h1, h2⟩ := (show ∃ p l, α[k]? = some (p :: l) ∧ v = .ref p from r)
    cases q : M[k]? with
    | none => simp [seqOf, q] at e
    | some m =>
      obtain ⟨l', h3, h4⟩ := paired_get em.rep q
      rw [h1] at h3; cases h3
      cases m with
      | l es =>
        simp [seqOf, q] at e
        subst e
        obtain ⟨p', vs, ep, hh, rr⟩ := h4
        cases ep
        exact ⟨p, vs, h2, .inl (SqL.of hh), rr⟩
      | k _ _ => simp [seqOf, q] at e
      | o _ _ => simp [seqOf, q] at e
      | dead => simp [seqOf, q] at e
  | .d .non, v, ds, e, r => by cases e
  | .d (.bl _), v, ds, e, r => by cases e
  | .d (.int _), v, ds, e, r => by cases e
  | .d (.str _), v, ds, e, r => by cases e
  | .d (.fn _), v, ds, e, r => by cases e
  | .d (.ty _), v, ds, e, r => by cases e
  | .d (.ob _ _), v, ds, e, r => by cases e
  | .d (.dk _ _), v, ds, e, r => by cases e
theorem wc_len (wk : C.W.K = C.X.K) {a : AV} {ds : List D} (hs : seqOf M a = some ds) (h : Ψ (.d (.int ds.length)) M) : WC C (.builtin "len") [a] M Ψ :=
  ⟨fun S α H Q vs em r q => by
    obtain ⟨v, e, h1⟩ := reps1 r
    obtain ⟨p, us, e2, sq, rr⟩ := seq_rep wk em hs h1
    refine uC_of call_len_seq ⟨p, us, by rw [e, e2], sq, ?_⟩
    rw [reps_len rr]
    exact stayE (a := .d (.int ds.length)) (v := .int ds.length) em q rfl h⟩
theorem wc_lenS {x : Str} (hl : x.length ≤ 1000000) (h : Ψ (.d (.int x.length)) M) : WC C (.builtin "len") [.d (.str x)] M Ψ :=
  ⟨fun S α H Q vs em r q => by
    obtain ⟨v, e, h1⟩ := reps1 r
    exact uC_of call_len_str ⟨x, by rw [e, show v = .str x from h1], by rw [sizeLine_eq]; omega, stayE (a := .d (.int x.length)) (v := .int x.length) em q rfl h⟩⟩
theorem reps_new {W : Wd} {S : Addr → Prop} {α : Als} {H : Hp} {p : Addr} {o : HO} {ds : List D} {vs : List V} (hp : H p = none) (r : Reps W (Av S α) H ds vs) : Reps W (Av S (α ++ [[p]])) (upd H p o) ds vs := by
  refine Reps.tr (fun b z => ?_) (fun b o _ => same_new hp b o) _ _ r
  rcases av_app z with z | ⟨l, hl, z⟩
  · exact .inl z
  · simp at hl; subst hl; simp at z; subst z; exact .inr hp
theorem reps_same {W : Wd} {S : Addr → Prop} {H H' : Hp} {ds : List D} {vs : List V} (h : Same H H') (r : Reps W S H ds vs) : Reps W S H' ds vs := Reps.tr (fun _ z => .inl z) (fun b o _ => h b o) _ _ r
theorem wc_list (wk : C.W.K = C.X.K) {a : AV} {ds : List D} (hs : seqOf M a = some ds) (h : Ψ (.m M.length) (M ++ [.l ds])) : WC C (.type "list") [a] M Ψ :=
  ⟨fun S α H Q vs em r q => by
    obtain ⟨v, e, h1⟩ := reps1 r
    obtain ⟨p, us, e2, sq, rr⟩ := seq_rep wk em hs h1
    refine uC_of call_list_of ⟨p, us, by rw [e, e2], sq, fun l hl => ?_⟩
    exact newM (m := .l ds) em q hl ⟨l, us, rfl, upd_same, reps_new hl rr⟩ h⟩
theorem wc_tuple (wk : C.W.K = C.X.K) {a : AV} {ds : List D} (hs : seqOf M a = some ds) (h : Ψ (.d (.tup ds)) M) : WC C (.type "tuple") [a] M Ψ :=
  ⟨fun S α H Q vs em r q => by
    obtain ⟨v, e, h1⟩ := reps1 r
    have new : ∀ (p : Addr) us, v = .ref p → SqL C.X.K H p us → Reps C.W (Av S α) H ds us → uC C.X (.type "tuple") vs H Q := fun p us e2 sq rr => by
      refine uC_of call_tuple_of ⟨p, us, by rw [e, e2], .inl ⟨sq, fun l hl => ?_⟩⟩
      exact newE (x := .tup ds) em q hl ⟨l, us, rfl, TSq.of (em.off hl) upd_same, reps_same (same_new hl) rr⟩ h
    cases a with
    | m k =>
      obtain ⟨p, us, e2, sq, rr⟩ := seq_rep wk em hs h1
      rcases sq with sq | sq
      · exact new p us e2 sq rr
      · -- a list of the store is no tuple
        obtain ⟨p', l, g1, g2⟩ := (show ∃ p l, α[k]? = some (p :: l) ∧ v = .ref p from h1)
        cases e0 : M[k]? with
        | none => simp [seqOf, e0] at hs
        | some m =>
          obtain ⟨l', h3, h4⟩ := paired_get em.rep e0
          rw [g1] at h3; cases h3
          cases m with
          | l es =>
            simp [seqOf, e0] at hs
            subst hs
            obtain ⟨p2, ws, ep, hh, rr2⟩ := h4
            cases ep
            exact new p' ws g2 (SqL.of hh) rr2
          | k _ _ => simp [seqOf, e0] at hs
          | o _ _ => simp [seqOf, e0] at hs
          | dead => simp [seqOf, e0] at hs
    | d x =>
      cases x with
      | tup es =>
        cases hs
        obtain ⟨p, us, e2, t, rr⟩ := (show ∃ a vs, v = .ref a ∧ TSq C.W (Av S α) H a vs ∧ Reps C.W (Av S α) H ds vs from h1)
        refine uC_of call_tuple_of ⟨p, us, by rw [e, e2], .inr ⟨wk ▸ t.sq, ?_⟩⟩
        exact stayE (a := .d (.tup ds)) (v := .ref p) em q ⟨p, us, rfl, t, rr⟩ h
      | lst es =>
        cases hs
        obtain ⟨p, us, e2, t, rr⟩ := (show ∃ a vs, v = .ref a ∧ LSq C.W (Av S α) H a vs ∧ Reps C.W (Av S α) H ds vs from h1)
        exact new p us e2 (wk ▸ t.sq) rr
      | _ => cases hs⟩
end

section
variable {P : Program} {w : World} {K : PySem.W.Frag} {mg : Str → Option Value} {base : Heap} {N gs : List Str} {Vi Li : List Nat} {k : Nat}
variable {C : Ctx} {e e2 a b c o : Expr} {es : List Expr} {st : Stmt} {sts : List Stmt} {ρ : Rho} {M : Mm} {Φ : Kn} {Ψ : AV → Mm → Prop} {x : Str} {pos p : Pos}
theorem Cok.wk (ok : Cok C P w K mg base N gs Vi Li k) : C.W.K = C.X.K := by rw [ok.WK, ok.kE]
/-- f(e, ..), f a built-in function -/
theorem we_callB (ok : Cok C P w K mg base N gs Vi Li k) (i : Nat) {id : String} (hN : gs[i]? = some x) (hm : mg x = none) (hv : bootBuiltins x = some (.builtin id)) (h : WA C (e :: es) ρ M fun as M1 => WC C (.builtin id) as M1 Ψ)
    (hn : x ≠ "__name__" := by decide) (hdb : (x == ("__debug__" : Str)) = false := by decide)
    (he : starEach (e :: es) C.X.env = (false, eval e C.X.env) :: starEach es C.X.env := by rfl) (hpl : (backTo pos (starEach es C.X.env)).any (·.1) = false := by rfl) : WE C (.Call (.Name x p) (e :: es) [] pos) ρ M Ψ := by
  refine ⟨fun S α0 H0 α σ H Q bs g ev q => uE_of (pe_callB call_u (ok.gl i x hN) (by rw [ok.mgE]; exact hm) hv pa_u hn hdb he hpl) ?_⟩
  refine h.run S α0 H0 α σ H _ bs g ev fun as M1 β1 vs H1 p1 em1 g1 r1 => ?_
  exact p1.run S _ H1 Q vs em1 r1 (thnE q g1)
theorem we_callTy (ok : Cok C P w K mg base N gs Vi Li k) (i : Nat) {id : String} (hN : gs[i]? = some x) (hm : mg x = none) (hv : bootBuiltins x = some (.type id)) (h : WA C (e :: es) ρ M fun as M1 => WC C (.type id) as M1 Ψ)
    (hn : x ≠ "__name__" := by decide) (hdb : (x == ("__debug__" : Str)) = false := by decide)
    (he : starEach (e :: es) C.X.env = (false, eval e C.X.env) :: starEach es C.X.env := by rfl) (hpl : (backTo pos (starEach es C.X.env)).any (·.1) = false := by rfl) : WE C (.Call (.Name x p) (e :: es) [] pos) ρ M Ψ := by
  refine ⟨fun S α0 H0 α σ H Q bs g ev q => uE_of (pe_callTy call_u (ok.gl i x hN) (by rw [ok.mgE]; exact hm) hv pa_u hn hdb he hpl) ?_⟩
  refine h.run S α0 H0 α σ H _ bs g ev fun as M1 β1 vs H1 p1 em1 g1 r1 => ?_
  exact p1.run S _ H1 Q vs em1 r1 (thnE q g1)

/-! ### subscripts -/
def uI (X : Cx) : R2 := fun x y H Q => ∀ (value slice : Expr) pins s σ v u, Inv X pins σ H s → RelV x v → RelV y u →
    subscripted slice false v u = operate [v, u] (getItem v u) → wpAny (model X.prog X.w) X.A (PyProof.Rows.subscriptTail value slice v u) (EP X pins σ Q) X.xe s
theorem ix_u {X : Cx} : IxR X (uI X) := fun value slice pins s σ _ _ _ v u _ I rx ry h hs => h value slice pins s σ v u I rx ry hs
theorem uI_of {X : Cx} {r : R2} {x y : V} {H : Hp} {Q : VK} (p : IxR X r) (h : r x y H Q) : uI X x y H Q := fun value slice pins s σ v u I rx ry hs => p value slice pins s σ H x y v u Q I rx ry h hs
structure WI (C : Ctx) (x y : AV) (M : Mm) (Ψ : AV → Mm → Prop) : Prop where
  run : ∀ S α H (Q : VK) v u, EM C.W S α M H → RepA C.W S α H x v → RepA C.W S α H y u → PostE C S α H Ψ Q → uI C.X v u H Q
theorem we_ix (h : WE C a ρ M fun x M1 => WE C b ρ M1 fun y M2 => WI C x y M2 Ψ) (hs : PlainIx b := by exact fun _ _ => rfl) : WE C (.Subscript a b pos) ρ M Ψ := by
  refine ⟨fun S α0 H0 α σ H Q bs g ev q => uE_of (pe_ix ix_u pe_u pe_u hs) ?_⟩
  refine h.run S α0 H0 α σ H _ bs g ev fun x M1 β1 v H1 p1 em1 g1 r1 => ?_
  refine p1.run S α0 H0 (α ++ β1) σ H1 _ bs (g.trans g1) (ev.up g1 em1) fun y M2 β2 u H2 p2 em2 g2 r2 => ?_
  exact p2.run S (α ++ β1 ++ β2) H2 Q v u em2 (r1.up g2) r2 (thnE (thnE q g1) g2)
theorem atI_reps {W : Wd} {S : Addr → Prop} {H : Hp} {ds : List D} {vs : List V} {i : Int} {d : D} (r : Reps W S H ds vs) (h : atI ds i = some d) : ∃ v, atI vs i = some v ∧ Rep W S H d v := by
  unfold atI at h ⊢
  rw [reps_len r]
  cases q : ixN ds.length i with
  | none => rw [q] at h; cases h
  | some j =>
    rw [q] at h
    exact reps_get r h
theorem wi_seq (wk : C.W.K = C.X.K) {a : AV} {i : Int} {ds : List D} {d : D} (hs : seqOf M a = some ds) (hi : atI ds i = some d) (h : Ψ (.d d) M) : WI C a (.d (.int i)) M Ψ :=
  ⟨fun S α H Q v u em r1 r2 q => by
    obtain ⟨p, us, e2, sq, rr⟩ := seq_rep wk em hs r1
    obtain ⟨y, h1, h2⟩ := atI_reps rr hi
    refine uI_of ix_seq ?_
    rcases sq with sq | sq
    · exact .inl ⟨p, us, i, y, e2, r2, sq, h1, stayE (a := .d d) em q h2 h⟩
    · exact .inr (.inl ⟨p, us, i, y, e2, r2, sq, h1, stayE (a := .d d) em q h2 h⟩)⟩
theorem wi_str {x : Str} {i : Int} {c : Nat} (hl : x.length ≤ 1000000) (hi : atI x.cps.toList i = some c) (h : Ψ (.d (.str ⟨#[c]⟩)) M) : WI C (.d (.str x)) (.d (.int i)) M Ψ :=
  ⟨fun S α H Q v u em r1 r2 q => uI_of ix_seq (.inr (.inr ⟨x, i, c, r1, r2, by rw [sizeLine_eq]; omega, hi, stayE (a := .d (.str ⟨#[c]⟩)) em q rfl h⟩))⟩

/-! ### the store is written -/
theorem paired_ne {α : Als} {T T' : MO → List Addr → Prop} {k : Nat} {l0 : List Addr} (hk : α[k]? = some l0) (nd : α.flatten.Nodup) (hn : ∀ l m, (∀ b ∈ l, b ∉ l0) → T m l → T' m l) : ∀ {M : Mm}, Paired T M α → ∀ m', T' m' l0 → Paired T' (M.set k m') α := by
  induction α generalizing k with
  | nil => simp at hk
  | cons a r ih =>
    intro M p m' h'
    rw [List.flatten_cons, List.nodup_append] at nd
    obtain ⟨n1, n2, n3⟩ := nd
    cases p with
    | cons h t =>
      cases k with
      | zero =>
        simp at hk; subst hk
        rw [List.set_cons_zero]
        refine .cons h' ?_
        -- the rest is apart
        have go : ∀ {r : Als} {M : Mm}, (∀ l ∈ r, ∀ b ∈ l, b ∉ a) → Paired T M r → Paired T' M r := by
          intro r M hr p
          induction p with
          | nil => exact .nil
          | cons x y ih => exact .cons (hn _ _ (hr _ List.mem_cons_self) x) (ih fun l hl => hr l (List.mem_cons_of_mem _ hl))
        exact go (fun l hl b hb hb' => n3 b hb' b (List.mem_flatten.mpr ⟨l, hl, hb⟩) rfl) t
      | succ k =>
        rw [List.set_cons_succ]
        have hk' : r[k]? = some l0 := by simpa using hk
        refine .cons (hn _ _ (fun b hb hb' => n3 b hb b (List.mem_flatten.mpr ⟨l0, List.mem_of_getElem? hk', hb'⟩) rfl) h) (ih hk' n2 t m' h')
/-- the k-th thing of the store gets another content -/
theorem EM.put {W : Wd} {S : Addr → Prop} {α : Als} {M : Mm} {H : Hp} {k : Nat} {p : Addr} {o : HO} {m' : MO} (em : EM W S α M H) (hk : α[k]? = some [p]) (new : MRep W (Av S α) (upd H p o) m' [p]) : EM W S α (M.set k m') (upd H p o) ∧ Gr α [] H (upd H p o) := by
  have hav : Av S α p := .inr ⟨[p], List.mem_of_getElem? hk, by simp⟩
  have st : ∀ b, H b ≠ none → (upd H p o) b ≠ none := fun b hb => by
    by_cases e : b = p
    · subst e; rw [upd_same]; simp
    · rw [upd_ne e]; exact hb
  refine ⟨⟨paired_ne hk em.nd (fun l m hl r => ?_) em.rep m' new, em.nd, fun b hb => st b (em.trk b hb)⟩, ⟨fun b x n e => ?_, st, fun l hl => by simp at hl⟩⟩
  · refine r.tr (fun b z => .inl z) (fun b x n e => ?_) fun b x hb e => ?_
    · rw [upd_ne (fun z => n (by rw [z]; exact hav))]; exact e
    · rw [upd_ne (fun z => hl b hb (by simp [z]))]; exact e
  · rw [upd_ne (fun z => n [p] (List.mem_of_getElem? hk) (by simp [z]))]; exact e
theorem reps_put {W : Wd} {S : Addr → Prop} {α : Als} {H : Hp} {k : Nat} {p : Addr} {o : HO} (hk : α[k]? = some [p]) {ds : List D} {vs : List V} (r : Reps W (Av S α) H ds vs) : Reps W (Av S α) (upd H p o) ds vs :=
  Reps.tr (fun _ z => .inl z) (fun b x n e => by rw [upd_ne (fun z => n (by rw [z]; exact .inr ⟨[p], List.mem_of_getElem? hk, by simp⟩))]; exact e) _ _ r
theorem rep_put {W : Wd} {S : Addr → Prop} {α : Als} {H : Hp} {k : Nat} {p : Addr} {o : HO} (hk : α[k]? = some [p]) {ds : D} {vs : V} (r : Rep W (Av S α) H ds vs) : Rep W (Av S α) (upd H p o) ds vs :=
  Rep.tr (fun _ z => .inl z) (fun b x n e => by rw [upd_ne (fun z => n (by rw [z]; exact .inr ⟨[p], List.mem_of_getElem? hk, by simp⟩))]; exact e) _ _ r
/-- a list of the store -/
theorem cell_l {W : Wd} {S : Addr → Prop} {α : Als} {M : Mm} {H : Hp} {k : Nat} {ds : List D} {v : V} (em : EM W S α M H) (hk : M[k]? = some (.l ds)) (r : RepA W S α H (.m k) v) : ∃ p vs, v = .ref p ∧ α[k]? = some [p] ∧ H p = some (.lst vs) ∧ Reps W (Av S α) H ds vs := by
  obtain ⟨p, l, h1, h2⟩ := (show ∃ p l, α[k]? = some (p :: l) ∧ v = .ref p from r)
  obtain ⟨l', h3, h4⟩ := paired_get em.rep hk
  rw [h1] at h3; cases h3
  obtain ⟨p', vs, ep, hh, rr⟩ := h4
  cases ep
  exact ⟨p, vs, h2, h1, hh, rr⟩
theorem cell_k {W : Wd} {S : Addr → Prop} {α : Als} {M : Mm} {H : Hp} {k : Nat} {ks : List Key} {ds : List D} {v : V} (em : EM W S α M H) (hk : M[k]? = some (.k ks ds)) (r : RepA W S α H (.m k) v) : ∃ p vs, v = .ref p ∧ α[k]? = some [p] ∧ H p = some (.dK (ks.zip vs)) ∧ vs.length = ks.length ∧ Reps W (Av S α) H ds vs := by
  obtain ⟨p, l, h1, h2⟩ := (show ∃ p l, α[k]? = some (p :: l) ∧ v = .ref p from r)
  obtain ⟨l', h3, h4⟩ := paired_get em.rep hk
  rw [h1] at h3; cases h3
  obtain ⟨p', vs, ep, hh, hz, rr⟩ := h4
  cases ep
  exact ⟨p, vs, h2, h1, hh, hz, rr⟩
theorem cell_o {W : Wd} {S : Addr → Prop} {α : Als} {M : Mm} {H : Hp} {k c : Nat} {ds : List D} {v : V} (em : EM W S α M H) (hk : M[k]? = some (.o c ds)) (r : RepA W S α H (.m k) v) : ∃ p dx vs, v = .ref p ∧ α[k]? = some [p] ∧ H p = some (.ins (W.ca c) dx ((W.cf c).zip vs)) ∧ vs.length ≤ (W.cf c).length ∧ Reps W (Av S α) H ds vs := by
  obtain ⟨p, l, h1, h2⟩ := (show ∃ p l, α[k]? = some (p :: l) ∧ v = .ref p from r)
  obtain ⟨l', h3, h4⟩ := paired_get em.rep hk
  rw [h1] at h3; cases h3
  obtain ⟨p', dx, vs, ep, hh, hz, rr⟩ := h4
  cases ep
  exact ⟨p, dx, vs, h2, h1, hh, hz, rr⟩

/-- o[i] = v by values -/
structure WSet (C : Ctx) (x y z : AV) (M : Mm) (R : Mm → Prop) : Prop where
  run : ∀ S α H (Q : Hp → Prop) xv yv zv, EM C.W S α M H → RepA C.W S α H x xv → RepA C.W S α H y yv → RepA C.W S α H z zv →
    (∀ M' H', R M' → EM C.W S α M' H' → Gr α [] H H' → Q H') →
    ∀ pins s σ ov iv u, Inv C.X pins σ H s → RelV xv ov → RelV yv iv → RelV zv u → wpAny (model C.X.prog C.X.w) C.X.A (setItem ov iv u) (fun _ s' => ∃ H', Inv C.X pins σ H' s' ∧ Q H') C.X.xe s
theorem w1_setix {i o : Expr} {pos' : Pos} (h : WE C e ρ M fun z M1 => WE C o ρ M1 fun x M2 => WE C i ρ M2 fun y M3 => WSet C x y z M3 fun M4 => Φ.nx ρ M4)
    (hs : swapsWithSole [.Subscript o i pos'] e pos.line C.X.env = pure false := by rfl) (hw : swappedStores [.Subscript o i pos'] e C.X.env = pure none := by rfl)
    (h1 : (assignEach [.Subscript o i pos'] C.X.env).map (·.2) = [assign (.Subscript o i pos') C.X.env] := by rfl)
    (ha : ∀ v, assign (.Subscript o i pos') C.X.env v = (do
      let ov ← holding [v] (eval o C.X.env)
      let iv ← holding [v, ov] (eval i C.X.env)
      standAt pos'
      holding [v, ov, iv] (setItem ov iv v)
      release [v, ov, iv] []) := by intro _; rfl) : W1 C (.Assign [.Subscript o i pos'] e pos) ρ M Φ := by
  refine ⟨fun S α0 H0 α σ H D bs g ev f => uS_of (ps_asg pe_u (pg_sub (t := fun xv yv zv H Q => ∀ pins s σ ov iv u, Inv C.X pins σ H s → RelV xv ov → RelV yv iv → RelV zv u → wpAny (model C.X.prog C.X.w) C.X.A (setItem ov iv u) (fun _ s' => ∃ H', Inv C.X pins σ H' s' ∧ Q H') C.X.xe s)
    pe_u pe_u (fun pins s σ H o i v ov iv u Q I ro ri rv h => h pins s σ ov iv u I ro ri rv) ha) hs hw h1) ?_⟩
  show uE C.X e σ H fun zv H1 => uE C.X o σ H1 fun xv H2 => uE C.X i σ H2 fun yv H3 => _
  refine h.run S α0 H0 α σ H _ bs g ev fun z M1 β1 zv H1 p1 em1 g1 r1 => ?_
  refine p1.run S α0 H0 (α ++ β1) σ H1 _ bs (g.trans g1) (ev.up g1 em1) fun x M2 β2 xv H2 p2 em2 g2 r2 => ?_
  refine p2.run S α0 H0 (α ++ β1 ++ β2) σ H2 _ bs ((g.trans g1).trans g2) ((ev.up g1 em1).up g2 em2) fun y M3 β3 yv H3 p3 em3 g3 r3 => ?_
  refine p3.run S _ H3 (fun H4 => D.nx σ H4) xv yv zv em3 (r2.up g3) r3 ((r1.up g2).up g3) fun M4 H4 p4 em4 g4 => ?_
  have gg := ((g.trans g1).trans g2).trans g3
  have e4 : α ++ β1 ++ β2 ++ β3 ++ [] = α ++ β1 ++ β2 ++ β3 := app_nil _
  refine f.nx ρ M4 (α ++ β1 ++ β2 ++ β3 ++ []) σ H4 p4 ?_ (gg.trans g4)
  exact (((ev.up g1 em1).up g2 em2).up g3 em3).up g4 (by rw [e4]; exact em4)
theorem wset_l {k : Nat} {ds : List D} {i : Int} {j : Nat} {z : D} {R : Mm → Prop} (hk : M[k]? = some (.l ds)) (hi : ixN ds.length i = some j) (h : R (M.set k (.l (ds.set j z)))) : WSet C (.m k) (.d (.int i)) (.d z) M R := by
  refine ⟨fun S α H Q xv yv zv em r1 r2 r3 q pins s σ ov iv u I ro ri rv => ?_⟩
  obtain ⟨p, vs, e, ha, hh, rr⟩ := cell_l em hk r1
  refine set_list pins s σ H xv yv zv ov iv u _ I ro ri rv ⟨p, vs, i, j, e, r2, hh, by rw [reps_len rr]; exact hi, ?_⟩
  obtain ⟨em', g'⟩ := em.put (o := .lst (vs.set j zv)) (m' := .l (ds.set j z)) ha ⟨p, _, rfl, upd_same, reps_put ha (reps_set j rr r3)⟩
  exact q _ _ h em' g'

/-! ### methods of built-in types -/
/-- the built-in type of a value -/
def tyOf (M : Mm) : AV → Option String
  | .d (.str _) => some "str"
  | .d (.int _) => some "int"
  | .d (.lst _) => some "list"
  | .m k => match M[k]? with
    | some (.l _) => some "list"
    | some (.k _ _) => some "dict"
    | _ => none
  | .d (.dk _ _) => some "dict"
  | _ => none
theorem tyOf_ok (wk : C.W.K = C.X.K) {S : Addr → Prop} {α : Als} {H : Hp} (em : EM C.W S α M H) : ∀ {a : AV} {v : V} {T : String}, tyOf M a = some T → RepA C.W S α H a v → tyV C.X.K T v H
  | .d (.str z), v, T, e, r => by cases e; rw [show v = .str z from r]; exact rfl
  | .d (.int z), v, T, e, r => by cases e; rw [show v = .int z from r]; exact rfl
  | .d (.lst es), v, T, e, r => by
    cases e
    obtain ⟨a, vs, e, t, rr⟩ := (show ∃ a vs, v = .ref a ∧ LSq C.W (Av S α) H a vs ∧ Reps C.W (Av S α) H es vs from r)
    rw [e]; exact .inl ⟨rfl, vs, wk ▸ t.sq⟩
  | .d (.dk ks es), v, T, e, r => by
    cases e
    obtain ⟨a, vs, e, n, t, rr⟩ := (show ∃ a vs, v = .ref a ∧ ¬ Av S α a ∧ H a = some (.dK (ks.zip vs)) ∧ vs.length = ks.length ∧ Reps C.W (Av S α) H es vs from r)
    rw [e]; exact .inr (.inr (.inl ⟨rfl, .inl ⟨_, t⟩⟩))
  | .m k, v, T, e, r => by
    cases q : M[k]? with
    | none => simp [tyOf, q] at e
    | some m =>
      cases m with
      | l ds =>
        simp [tyOf, q] at e; subst e
        obtain ⟨p, vs, e, ha, hh, rr⟩ := cell_l em q r
        rw [e]; exact .inl ⟨rfl, vs, SqL.of hh⟩
      | k ks ds =>
        simp [tyOf, q] at e; subst e
        obtain ⟨p, vs, e, ha, hh, hz, rr⟩ := cell_k em q r
        rw [e]; exact .inr (.inr (.inl ⟨rfl, .inl ⟨_, hh⟩⟩))
      | o _ _ => simp [tyOf, q] at e
      | dead => simp [tyOf, q] at e
  | .d .non, v, T, e, r => by cases e
  | .d (.bl _), v, T, e, r => by cases e
  | .d (.fn _), v, T, e, r => by cases e
  | .d (.ty _), v, T, e, r => by cases e
  | .d (.ob _ _), v, T, e, r => by cases e
  | .d (.tup _), v, T, e, r => by cases e
def uM (X : Cx) (id : String) : V → List V → Hp → VK → Prop := fun x xs H Q => ∀ pins s σ v us, Inv X pins σ H s → RelV x v → Vals xs us → wpAny (model X.prog X.w) X.A (call (.builtin id) (v :: us)) (EP X pins σ Q) X.xe s
theorem mt_u {X : Cx} {id : String} : MtR X id (uM X id) := fun pins s σ _ _ _ v us _ I r rs h => h pins s σ v us I r rs
theorem uM_of {X : Cx} {id : String} {r : V → List V → Hp → VK → Prop} {x : V} {xs : List V} {H : Hp} {Q : VK} (p : MtR X id r) (h : r x xs H Q) : uM X id x xs H Q := fun pins s σ v us I rx rs => p pins s σ H x xs v us Q I rx rs h
structure WM (C : Ctx) (id : String) (x : AV) (as : List AV) (M : Mm) (Ψ : AV → Mm → Prop) : Prop where
  run : ∀ S α H (Q : VK) v vs, EM C.W S α M H → RepA C.W S α H x v → RepsA C.W S α H as vs → PostE C S α H Ψ Q → uM C.X id v vs H Q
theorem we_bm (wk : C.W.K = C.X.K) {T id : String} {name : Str} {apos cpos : Pos} (pa : PlainAttrs T) (slot : Slot T name id) (hty : typeOf (.builtin id) = pure (.type "method_descriptor"))
    (h : WE C o ρ M fun x M1 => tyOf M1 x = some T ∧ WA C (e :: es) ρ M1 fun as M2 => WM C id x as M2 Ψ)
    (hbase : attributeBase o name C.X.env (eval o C.X.env) = eval o C.X.env := by rfl)
    (hfew : ((backTo cpos (starEach (e :: es) C.X.env)).all (fun x => !x.1) && (backToKw cpos (keywordEach [] C.X.env)).all (fun x => x.1.isSome)
      && decide ((e :: es).length + ([] : List Keyword).length + (if ([] : List Keyword).isEmpty then 0 else 1) < 30)) = true := by rfl)
    (hline : (apos.endLine == cpos.line) = true := by rfl) (hs : starEach (e :: es) C.X.env = (false, eval e C.X.env) :: starEach es C.X.env := by rfl) (hplain : (backTo cpos (starEach es C.X.env)).any (·.1) = false := by rfl) :
    WE C (.Call (.Attribute o name apos) (e :: es) [] cpos) ρ M Ψ := by
  refine ⟨fun S α0 H0 α σ H Q bs g ev q => uE_of (pe_bm pa slot hty mt_u pe_u pa_u hbase hfew hline hs hplain) ?_⟩
  refine h.run S α0 H0 α σ H _ bs g ev fun x M1 β1 v H1 p1 em1 g1 r1 => ?_
  refine ⟨tyOf_ok wk em1 p1.1 r1, ?_⟩
  refine p1.2.run S α0 H0 (α ++ β1) σ H1 _ bs (g.trans g1) (ev.up g1 em1) fun as M2 β2 vs H2 p2 em2 g2 r2 => ?_
  exact p2.run S (α ++ β1 ++ β2) H2 Q v vs em2 (r1.up g2) r2 (thnE (thnE q g1) g2)
theorem we_bm0 (wk : C.W.K = C.X.K) {T id : String} {name : Str} {apos cpos : Pos} (pa : PlainAttrs T) (slot : Slot T name id) (hty : typeOf (.builtin id) = pure (.type "method_descriptor"))
    (h : WE C o ρ M fun x M1 => tyOf M1 x = some T ∧ WM C id x [] M1 Ψ)
    (hbase : attributeBase o name C.X.env (eval o C.X.env) = eval o C.X.env := by rfl) (hline : (apos.endLine == cpos.line) = true := by rfl) :
    WE C (.Call (.Attribute o name apos) [] [] cpos) ρ M Ψ := by
  refine ⟨fun S α0 H0 α σ H Q bs g ev q => uE_of (pe_bm0 pa slot hty mt_u pe_u hbase hline) ?_⟩
  refine h.run S α0 H0 α σ H _ bs g ev fun x M1 β1 v H1 p1 em1 g1 r1 => ?_
  exact ⟨tyOf_ok wk em1 p1.1 r1, p1.2.run S (α ++ β1) H1 Q v [] em1 r1 rfl (thnE q g1)⟩
theorem wm_append {k : Nat} {ds : List D} {d : D} (hk : M[k]? = some (.l ds)) (hl : ds.length < 10000000) (h : Ψ (.d .non) (M.set k (.l (ds ++ [d])))) : WM C "list.append" (.m k) [.d d] M Ψ := by
  refine ⟨fun S α H Q v vs em r1 r2 q => ?_⟩
  obtain ⟨p, us, e, ha, hh, rr⟩ := cell_l em hk r1
  obtain ⟨y, e2, h2⟩ := reps1 r2
  refine uM_of mt_append ⟨p, us, y, e, e2, hh, by rw [reps_len rr, sizeLine_eq]; omega, ?_⟩
  obtain ⟨em', g'⟩ := em.put (o := .lst (us ++ [y])) (m' := .l (ds ++ [d])) ha ⟨p, _, rfl, upd_same, reps_put ha (reps_app rr (reps_cons h2 reps_nil))⟩
  exact q _ _ [] .non _ h (by rw [app_nil]; exact em') g' rfl
theorem we_bits {i : Int} {apos : Pos} (h : WE C o ρ M fun x M1 => ∃ i, x = .d (.int i) ∧ Ψ (.d (.int (Builtin.Int.intBits i : Nat))) M1)
    (hbase : attributeBase o "bit_length" C.X.env (eval o C.X.env) = eval o C.X.env := by rfl) (hline : (apos.endLine == pos.line) = true := by rfl) : WE C (.Call (.Attribute o "bit_length" apos) [] [] pos) ρ M Ψ := by
  refine ⟨fun S α0 H0 α σ H Q bs g ev q => uE_of (pe_bits pe_u hbase hline) ?_⟩
  refine h.run S α0 H0 α σ H _ bs g ev fun x M1 β1 v H1 p1 em1 g1 r1 => ?_
  obtain ⟨i, e, hh⟩ := p1
  subst e
  exact ⟨i, r1, stayE (a := .d (.int (Builtin.Int.intBits i : Nat))) (v := .int (Builtin.Int.intBits i : Nat)) em1 (thnE q g1) rfl hh⟩
end
end Dl

/-! DL5: defs, their promises over data, calls, instances. -/
namespace Dl
open PySem L2

/-- a def's promise over data: arguments, store, what is wanted of the result and the store, of an exception -/
abbrev DSp := List AV → Mm → (AV → Mm → Prop) → (Nat → List D → Mm → Prop) → Prop
def spOf (W : Wd) (n0 : Nat) (dsp : DSp) : Sp := fun vs H Q E => ∃ (S : Addr → Prop) (α : Als) (M : Mm) (as : List AV) (Ψ : AV → Mm → Prop) (T : Nat → List D → Mm → Prop),
  EM W S α M H ∧ M.length = n0 ∧ RepsA W S α H as vs ∧ dsp as M Ψ T ∧
  (∀ a M' β v H', Ψ a M' → EM W S (α ++ β) M' H' → Gr α β H H' → RepA W S (α ++ β) H' a v → Q v H') ∧
  (∀ c ds M' β H' cls dA, T c ds M' → EM W S (α ++ β) M' H' → Gr α β H H' → XRep W (Av S (α ++ β)) H' c ds cls dA → E cls dA H')
/-- the def that the module's name x holds -/
structure Fk (P : Program) (w : World) (K : PySem.W.Frag) (mg : Str → Option Value) (base : Heap) (W : Wd) (x : Str) (ps : List Str) (n0 : Nat) (dsp : DSp) (k : Nat) : Prop where
  ex : ∃ f fd, FnOk P w K mg base (L2.CX P w) k f fd ps (spOf W n0 dsp) ∧ mg x = some (.ref f) ∧ PySem.W.keepIn K (.ref f) = true ∧ Binds K fd ps []

theorem repsA_len {W : Wd} {S : Addr → Prop} {α : Als} {H : Hp} : ∀ {as : List AV} {vs : List V}, RepsA W S α H as vs → vs.length = as.length
  | [], vs, r => by rw [show vs = [] from r]; rfl
  | a :: as, vs, r => by
    obtain ⟨v, r, e, h, t⟩ := (show ∃ v r, vs = v :: r ∧ RepA W S α H a v ∧ RepsA W S α H as r from r)
    rw [e, List.length_cons, List.length_cons, repsA_len t]

section
variable {C : Ctx} {S : Addr → Prop} {α : Als} {M : Mm} {H : Hp} {Ψ : AV → Mm → Prop} {Q : VK}
/-- the callee's store is empty -/
def sh0 (n : Nat) : AV → AV
  | .d x => .d x
  | .m j => .m (n + j)
theorem av0 {b : Addr} : Av (Av S α) [] b → Av S α b := fun h => by
  rcases h with h | ⟨l, hl, _⟩
  · exact h
  · simp at hl
theorem av_nest {γ β : Als} (hγ : ∀ l ∈ γ, l ∈ α) {b : Addr} : Av S (α ++ β) b → Av (Av S α) (γ ++ β) b := fun h => by
  rcases av_app h with h | ⟨l, hl, hb⟩
  · exact .inl h
  · exact .inr ⟨l, List.mem_append_right _ hl, hb⟩
theorem av_nest' {γ β : Als} (hγ : ∀ l ∈ γ, l ∈ α) {b : Addr} : Av (Av S α) (γ ++ β) b → Av S (α ++ β) b := fun h => by
  rcases h with h | ⟨l, hl, hb⟩
  · exact av_mono h
  · rcases List.mem_append.mp hl with q | q
    · exact av_mono (.inr ⟨l, hγ l q, hb⟩)
    · exact .inr ⟨l, List.mem_append_right _ q, hb⟩
theorem nodup_join {β : Als} (h1 : α.flatten.Nodup) (h2 : β.flatten.Nodup) (h : ∀ l ∈ β, ∀ b ∈ l, ∀ l' ∈ α, b ∉ l') : (α ++ β).flatten.Nodup := by
  rw [List.flatten_append, List.nodup_append]
  refine ⟨h1, h2, fun a ha b hb e => ?_⟩
  obtain ⟨l, hl, hb'⟩ := List.mem_flatten.mp hb
  obtain ⟨l', hl', ha'⟩ := List.mem_flatten.mp ha
  exact h l hl b hb' l' hl' (e ▸ ha')
theorem repsA0 {W : Wd} : ∀ {as : List AV} {ds : List D} {vs : List V}, unD as = some ds → RepsA W S α H as vs → RepsA W (Av S α) [] H as vs
  | [], ds, vs, e, r => r
  | .d x :: as, ds, vs, e, r => by
    obtain ⟨v, r, ev, h, t⟩ := (show ∃ v r, vs = v :: r ∧ RepA W S α H (.d x) v ∧ RepsA W S α H as r from r)
    have e' : (unD as).map (x :: ·) = some ds := e
    cases q : unD as with
    | none => rw [q] at e'; cases e'
    | some es => exact ⟨v, r, ev, Rep.less (fun b z => av0 z) (show Rep W (Av S α) H x v from h), repsA0 q t⟩
  | .m k :: as, ds, vs, e, r => by cases e
/-- behind a call that was handed nothing of the store -/
theorem back0 {W : Wd} {M' : Mm} {β : Als} {H' : Hp} {a : AV} {v : V} (em : EM W S α M H) (e' : EM W (Av S α) ([] ++ β) M' H') (g : Gr [] β H H') (r : RepA W (Av S α) ([] ++ β) H' a v) :
    EM W S (α ++ β) (M ++ M') H' ∧ Gr α β H H' ∧ RepA W S (α ++ β) H' (sh0 M.length a) v := by
  have g' : Gr α β H H' := ⟨fun b o _ e => g.kp b o (fun l hl => by simp at hl) e, g.st, g.fr⟩
  have up : ∀ b, Av S (α ++ β) b → Av S α b ∨ H b = none := fun b hb => by
    rcases av_app hb with z | ⟨l, hl, z⟩
    · exact .inl z
    · exact .inr (g.fr l hl b z)
  have kp : ∀ b o, H b = some o → H' b = some o := fun b o e => g.kp b o (fun l hl => by simp at hl) e
  refine ⟨⟨paired_app (Paired.mapP em.rep fun m l r => r.tr up (fun b o _ e => kp b o e) fun b o _ e => kp b o e) (Paired.mapP e'.rep fun m l r => r.tr (fun b z => .inl ?_) (fun _ _ _ e => e) fun _ _ _ e => e), nodup_join em.nd e'.nd fun l hl b hb l' hl' hb' => ?_, fun b hb => g.st b (em.trk b hb)⟩, g', ?_⟩
  · exact av_nest (γ := []) (fun l hl => by simp at hl) z
  · exact em.trA b (.inr ⟨l', hl', hb'⟩) (g.fr l hl b hb)
  · cases a with
    | d x => exact Rep.less (fun b z => av_nest (γ := []) (fun l hl => by simp at hl) z) (show Rep W (Av (Av S α) ([] ++ β)) H' x v from r)
    | m j =>
      obtain ⟨p, l, h1, h2⟩ := (show ∃ p l, ([] ++ β)[j]? = some (p :: l) ∧ v = .ref p from r)
      refine ⟨p, l, ?_, h2⟩
      rw [em.len, List.getElem?_append_right (Nat.le_add_right _ _), Nat.add_sub_cancel_left]
      exact h1
/-- the callee is handed the k-th thing alone -/
def ren1 (k : Nat) : AV → AV
  | .d x => .d x
  | .m j => if j = k then .m 0 else .m 1
def sh1 (k n : Nat) : AV → AV
  | .d x => .d x
  | .m 0 => .m k
  | .m (j + 1) => .m (n + j)
def only1 (k : Nat) : List AV → Bool
  | [] => true
  | .d _ :: r => only1 k r
  | .m j :: r => (j == k) && only1 k r
theorem nodup_of_mem {l0 : List Addr} : ∀ {α : Als}, α.flatten.Nodup → l0 ∈ α → l0.Nodup
  | [], _, h => by simp at h
  | a :: r, nd, h => by
    rw [List.flatten_cons, List.nodup_append] at nd
    rcases List.mem_cons.mp h with e | h
    · rw [e]; exact nd.1
    · exact nodup_of_mem nd.2.1 h
theorem repsA1 {W : Wd} {k : Nat} {l0 : List Addr} (hk : α[k]? = some l0) : ∀ {as : List AV} {vs : List V}, only1 k as = true → RepsA W S α H as vs → RepsA W (Av S α) [l0] H (as.map (ren1 k)) vs
  | [], vs, e, r => r
  | .d x :: as, vs, e, r => by
    obtain ⟨v, r, ev, h, t⟩ := (show ∃ v r, vs = v :: r ∧ RepA W S α H (.d x) v ∧ RepsA W S α H as r from r)
    refine ⟨v, r, ev, ?_, repsA1 hk (show only1 k as = true from e) t⟩
    refine Rep.less (fun b z => ?_) (show Rep W (Av S α) H x v from h)
    rcases z with z | ⟨l, hl, z⟩
    · exact z
    · simp at hl; subst hl; exact .inr ⟨l, List.mem_of_getElem? hk, z⟩
  | .m j :: as, vs, e, r => by
    obtain ⟨v, r, ev, h, t⟩ := (show ∃ v r, vs = v :: r ∧ RepA W S α H (.m j) v ∧ RepsA W S α H as r from r)
    have e' : ((j == k) && only1 k as) = true := e
    rw [Bool.and_eq_true] at e'
    refine ⟨v, r, ev, ?_, repsA1 hk e'.2 t⟩
    have ej : j = k := by simpa using e'.1
    subst ej
    obtain ⟨p, l, h1, h2⟩ := (show ∃ p l, α[j]? = some (p :: l) ∧ v = .ref p from h)
    rw [hk] at h1; cases h1
    show RepA W (Av S α) [p :: l] H (if j = j then .m 0 else .m 1) v
    rw [if_pos rfl]
    exact ⟨p, l, rfl, h2⟩
theorem em1 {W : Wd} {k : Nat} {c : MO} {l0 : List Addr} (em : EM W S α M H) (hk : α[k]? = some l0) (hc : MRep W (Av S α) H c l0) : EM W (Av S α) [l0] [c] H := by
  refine ⟨.cons (hc.tr (fun b z => .inl ?_) (fun _ _ _ e => e) fun _ _ _ e => e) .nil, ?_, em.trA⟩
  · rcases z with z | ⟨l, hl, z⟩
    · exact z
    · simp at hl; subst hl; exact .inr ⟨l, List.mem_of_getElem? hk, z⟩
  · have : l0.Nodup := nodup_of_mem em.nd (List.mem_of_getElem? hk)
    simpa using this
theorem back1 {W : Wd} {M' : Mm} {k : Nat} {c' : MO} {l0 : List Addr} {β : Als} {H' : Hp} {a : AV} {v : V} (em : EM W S α M H) (hk : α[k]? = some l0) (e' : EM W (Av S α) ([l0] ++ β) (c' :: M') H') (g : Gr [l0] β H H') (r : RepA W (Av S α) ([l0] ++ β) H' a v) :
    EM W S (α ++ β) (M.set k c' ++ M') H' ∧ Gr α β H H' ∧ RepA W S (α ++ β) H' (sh1 k M.length a) v := by
  have hmem : l0 ∈ α := List.mem_of_getElem? hk
  have g' : Gr α β H H' := ⟨fun b o n e => g.kp b o (fun l hl => by simp at hl; subst hl; exact n l hmem) e, g.st, g.fr⟩
  have up : ∀ b, Av S (α ++ β) b → Av S α b ∨ H b = none := fun b hb => by
    rcases av_app hb with z | ⟨l, hl, z⟩
    · exact .inl z
    · exact .inr (g.fr l hl b z)
  have sub : ∀ b, Av S (α ++ β) b → Av (Av S α) ([l0] ++ β) b := fun b z => av_nest (γ := [l0]) (fun l hl => by simp at hl; subst hl; exact hmem) z
  have sub' : ∀ b, Av (Av S α) ([l0] ++ β) b → Av S (α ++ β) b := fun b z => av_nest' (γ := [l0]) (fun l hl => by simp at hl; subst hl; exact hmem) z
  cases e'.rep with
  | cons hc hr =>
    refine ⟨⟨paired_app (paired_ne hk em.nd (fun l m hl r => ?_) em.rep c' (hc.tr (fun b z => .inl (sub b z)) (fun _ _ _ e => e) fun _ _ _ e => e)) (Paired.mapP hr fun m l r => r.tr (fun b z => .inl (sub b z)) (fun _ _ _ e => e) fun _ _ _ e => e), nodup_join em.nd ?_ fun l hl b hb l' hl' hb' => ?_, fun b hb => g.st b (em.trk b hb)⟩, g', ?_⟩
    · refine r.tr up (fun b o n e => ?_) fun b o hb e => ?_
      · exact g.kp b o (fun l hl z => by simp at hl; subst hl; exact n (.inr ⟨l, hmem, z⟩)) e
      · exact g.kp b o (fun l' hl' z => by simp at hl'; subst hl'; exact hl b hb z) e
    · have := e'.nd
      rw [List.flatten_append, List.nodup_append] at this
      exact this.2.1
    · exact em.trA b (.inr ⟨l', hl', hb'⟩) (g.fr l hl b hb)
    · cases a with
      | d x => exact Rep.less (fun b z => sub b z) (show Rep W (Av (Av S α) ([l0] ++ β)) H' x v from r)
      | m j =>
        obtain ⟨p, l, h1, h2⟩ := (show ∃ p l, ([l0] ++ β)[j]? = some (p :: l) ∧ v = .ref p from r)
        cases j with
        | zero =>
          simp at h1
          refine ⟨p, l, ?_, h2⟩
          rw [← h1]; exact get_app hk
        | succ j =>
          refine ⟨p, l, ?_, h2⟩
          show (α ++ β)[M.length + j]? = _
          rw [em.len, List.getElem?_append_right (Nat.le_add_right _ _), Nat.add_sub_cancel_left]
          simpa using h1
end

section
variable {P : Program} {w : World} {K : PySem.W.Frag} {mg : Str → Option Value} {base : Heap} {N gs ps : List Str} {Vi Li : List Nat} {k : Nat}
variable {C : Ctx} {e e2 a b c o : Expr} {es : List Expr} {st : Stmt} {sts : List Stmt} {ρ : Rho} {M : Mm} {Φ : Kn} {Ψ : AV → Mm → Prop} {x : Str} {pos p : Pos}
/-- what a call without store wants; with the j-th thing of the store -/
def call0 (C : Ctx) (ρ : Rho) (dsp : DSp) (as : List AV) (M1 : Mm) (Ψ : AV → Mm → Prop) : Prop :=
  dsp as [] (fun a M' => Ψ (sh0 M1.length a) (M1 ++ M')) (fun c ds M' => C.T c ds ρ (M1 ++ M'))
def call1 (C : Ctx) (ρ : Rho) (j : Nat) (dsp : DSp) (as : List AV) (M1 : Mm) (Ψ : AV → Mm → Prop) : Prop :=
  ∃ c, M1[j]? = some c ∧ dsp (as.map (ren1 j)) [c] (fun a M' => ∃ c' r, M' = c' :: r ∧ Ψ (sh1 j M1.length a) (M1.set j c' ++ r)) (fun cl ds M' => ∃ c' r, M' = c' :: r ∧ C.T cl ds ρ (M1.set j c' ++ r))
/-- the promise of a callee, at a state -/
theorem spO0 {S : Addr → Prop} {α0 α : Als} {H0 H : Hp} {σ : L2.St} {dsp : DSp} {as : List AV} {vs : List V} {Q : VK} {Wx : WX} {ds : List D} (g : Gr0 α0 α H0 H) (ev : Ev C.W S α ρ M σ H)
    (tk : ∀ c ds ρ M α σ H cls dA, C.T c ds ρ M → Ev C.W S α ρ M σ H → Gr0 α0 α H0 H → XRep C.W (Av S α) H c ds cls dA → Wx cls dA σ H)
    (hu : unD as = some ds) (r : RepsA C.W S α H as vs) (q : PostE C S α H Ψ Q) (h : call0 C ρ dsp as M Ψ) : spOf C.W 0 dsp vs H Q (fun cls d H' => Wx cls d σ H') := by
  refine ⟨Av S α, [], [], as, _, _, ⟨.nil, by simp, ev.em.trA⟩, rfl, repsA0 hu r, h, fun a M' β v H' p em' g' r' => ?_, fun c ds M' β H' cls dA t em' g' xr => ?_⟩
  · obtain ⟨h1, h2, h3⟩ := back0 ev.em em' g' r'
    exact q _ _ β v H' p h1 h2 h3
  · obtain ⟨h1, h2, _⟩ := back0 (a := .d .non) (v := .non) ev.em em' g' rfl
    refine tk c ds ρ _ _ σ H' cls dA t (ev.up h2 h1) (g.trans h2) ?_
    obtain ⟨e1, xr⟩ := xr
    refine ⟨e1, xr.imp id ?_⟩
    rintro ⟨dd, us, e2, n, hh, hl, rr⟩
    exact ⟨dd, us, e2, fun z => n (av_nest (γ := []) (fun l hl => by simp at hl) z), hh, hl, Reps.less (fun b z => av_nest (γ := []) (fun l hl => by simp at hl) z) rr⟩
theorem spO1 {S : Addr → Prop} {α0 α : Als} {H0 H : Hp} {σ : L2.St} {dsp : DSp} {as : List AV} {vs : List V} {Q : VK} {Wx : WX} {j : Nat} (g : Gr0 α0 α H0 H) (ev : Ev C.W S α ρ M σ H)
    (tk : ∀ c ds ρ M α σ H cls dA, C.T c ds ρ M → Ev C.W S α ρ M σ H → Gr0 α0 α H0 H → XRep C.W (Av S α) H c ds cls dA → Wx cls dA σ H)
    (hu : only1 j as = true) (r : RepsA C.W S α H as vs) (q : PostE C S α H Ψ Q) (h : call1 C ρ j dsp as M Ψ) : spOf C.W 1 dsp vs H Q (fun cls d H' => Wx cls d σ H') := by
  obtain ⟨c, hc, h⟩ := h
  obtain ⟨l0, h1, h2⟩ := paired_get ev.em.rep hc
  have hmem : l0 ∈ α := List.mem_of_getElem? h1
  refine ⟨Av S α, [l0], [c], as.map (ren1 j), _, _, em1 ev.em h1 h2, rfl, repsA1 h1 hu r, h, fun a M' β v H' p em' g' r' => ?_, fun c ds M' β H' cls dA t em' g' xr => ?_⟩
  · obtain ⟨c', r2, e, p⟩ := p
    subst e
    obtain ⟨h1, h2, h3⟩ := back1 ev.em h1 em' g' r'
    exact q _ _ β v H' p h1 h2 h3
  · obtain ⟨c', r2, e, t⟩ := t
    subst e
    obtain ⟨h1, h2, _⟩ := back1 (a := .d .non) (v := .non) ev.em h1 em' g' rfl
    refine tk _ ds ρ _ _ σ H' cls dA t (ev.up h2 h1) (g.trans h2) ?_
    obtain ⟨e1, xr⟩ := xr
    refine ⟨e1, xr.imp id ?_⟩
    rintro ⟨dd, us, e2, n, hh, hl, rr⟩
    have sub : ∀ b, Av S (α ++ β) b → Av (Av S α) ([l0] ++ β) b := fun b z => av_nest (γ := [l0]) (fun l hl => by simp at hl; subst hl; exact hmem) z
    exact ⟨dd, us, e2, fun z => n (sub _ z), hh, hl, Reps.less (fun b z => sub b z) rr⟩
theorem unD_of_allD {as : List AV} {R : List D → Prop} (h : allD as R) : ∃ ds, unD as = some ds ∧ R ds := by
  cases q : unD as with
  | none => unfold allD at h; rw [q] at h; exact h.elim
  | some ds => unfold allD at h; rw [q] at h; exact ⟨ds, rfl, h⟩
/-- f(e, ..), handed nothing of the store -/
theorem we_call {dsp : DSp} {k' : Nat} (ok : Cok C P w K mg base N gs Vi Li k) (i : Nat) (hN : gs[i]? = some x) (F : Fk P w K mg base C.W x ps 0 dsp k') (hk : k' ≤ k)
    (h : WA C (e :: es) ρ M fun as M1 => allD as fun _ => call0 C ρ dsp as M1 Ψ)
    (hdb : (x == ("__debug__" : Str)) = false := by decide) (he : starEach (e :: es) C.X.env = (false, eval e C.X.env) :: starEach es C.X.env := by rfl) (hpl : (backTo pos (starEach es C.X.env)).any (·.1) = false := by rfl) :
    WE C (.Call (.Name x p) (e :: es) [] pos) ρ M Ψ := by
  obtain ⟨f, fd, FO, hm, hkp, hb⟩ := F.ex
  refine ⟨fun S α0 H0 α σ H Q bs g ev q => ?_⟩
  obtain ⟨Wx, tk, ht⟩ := bs.tk
  have FO' : FnOk C.X.prog C.X.w C.X.K C.X.mg C.X.base (L2.CX C.X.prog C.X.w) k' f fd ps (spOf C.W 0 dsp) := by rw [ok.prog, ok.wE, ok.kE, ok.mgE, ok.baseE]; exact FO
  refine uE_of (pe_callS FO' (ok.room.mono hk) (ok.gl i x hN) (by rw [ok.mgE]; exact hm) (by rw [ok.kE]; exact hkp) (by rw [ok.kE]; exact hb) (passAt tk) pa_u hdb he hpl) ?_
  refine h.run S α0 H0 α σ H _ bs g ev fun as M1 β1 vs H1 p1 em1 g1 r1 => ?_
  obtain ⟨ds, hu, hc⟩ := unD_of_allD p1
  exact spO0 (g.trans g1) (ev.up g1 em1) ht hu r1 (thnE q g1) hc
/-- f(e, ..), handed the j-th thing -/
theorem we_call1 {dsp : DSp} {k' : Nat} (j : Nat) (ok : Cok C P w K mg base N gs Vi Li k) (i : Nat) (hN : gs[i]? = some x) (F : Fk P w K mg base C.W x ps 1 dsp k') (hk : k' ≤ k)
    (h : WA C (e :: es) ρ M fun as M1 => only1 j as = true ∧ call1 C ρ j dsp as M1 Ψ)
    (hdb : (x == ("__debug__" : Str)) = false := by decide) (he : starEach (e :: es) C.X.env = (false, eval e C.X.env) :: starEach es C.X.env := by rfl) (hpl : (backTo pos (starEach es C.X.env)).any (·.1) = false := by rfl) :
    WE C (.Call (.Name x p) (e :: es) [] pos) ρ M Ψ := by
  obtain ⟨f, fd, FO, hm, hkp, hb⟩ := F.ex
  refine ⟨fun S α0 H0 α σ H Q bs g ev q => ?_⟩
  obtain ⟨Wx, tk, ht⟩ := bs.tk
  have FO' : FnOk C.X.prog C.X.w C.X.K C.X.mg C.X.base (L2.CX C.X.prog C.X.w) k' f fd ps (spOf C.W 1 dsp) := by rw [ok.prog, ok.wE, ok.kE, ok.mgE, ok.baseE]; exact FO
  refine uE_of (pe_callS FO' (ok.room.mono hk) (ok.gl i x hN) (by rw [ok.mgE]; exact hm) (by rw [ok.kE]; exact hkp) (by rw [ok.kE]; exact hb) (passAt tk) pa_u hdb he hpl) ?_
  refine h.run S α0 H0 α σ H _ bs g ev fun as M1 β1 vs H1 p1 em1 g1 r1 => ?_
  exact spO1 (g.trans g1) (ev.up g1 em1) ht p1.1 r1 (thnE q g1) p1.2

/-! ### a def's body -/
def rho0 (N : List Str) (as : List AV) : Rho := as.map some ++ List.replicate (N.length - as.length) none
theorem ev_start {W : Wd} {S : Addr → Prop} {α : Als} {H : Hp} {as : List AV} {vs : List V} (em : EM W S α M H) (r : RepsA W S α H as vs) : Ev W S α (rho0 N as) M (L2.start N vs) H := by
  have hl := repsA_len r
  refine ⟨em, by unfold rho0 L2.start; simp [hl], fun i a hi => ?_⟩
  unfold rho0 at hi
  unfold L2.start
  have hlt : i < as.length := by
    by_cases hlt : i < as.length
    · exact hlt
    · rw [List.getElem?_append_right (by simpa using hlt), List.getElem?_replicate] at hi
      split at hi <;> cases hi
  rw [List.getElem?_append_left (by simpa using hlt)] at hi
  rw [List.getElem?_append_left (by simpa [hl] using hlt)]
  have go : ∀ {as : List AV} {vs : List V} {i : Nat} {a : AV}, RepsA W S α H as vs → (as.map some)[i]? = some (some a) → ∃ v, (vs.map some)[i]? = some (some v) ∧ RepA W S α H a v := by
    intro as
    induction as with
    | nil => intro vs i a _ h; simp at h
    | cons b as ih =>
      intro vs i a r h
      obtain ⟨v, r2, e, h1, t⟩ := (show ∃ v r, vs = v :: r ∧ RepA W S α H b v ∧ RepsA W S α H as r from r)
      subst e
      cases i with
      | zero => simp at h; subst h; exact ⟨v, rfl, h1⟩
      | succ i => exact ih (i := i) t (by simpa using h)
  exact go r hi
/-- how a def's body is shown -/
theorem fn_D {x qual : Str} {st : Stmt} {f : Addr} {fd : FuncData} {W : Wd} {n0 : Nat} {dsp : DSp} (F : Fun K x qual st f fd) (S : FnScope N ps (defScope st))
    (vis : ∀ (i : Nat) y, i ∈ Vi → N[i]? = some y → (defScope st).names.lookup y = some .local ∨ (defScope st).names.lookup y = some .cell)
    (gl : ∀ (i : Nat) y, gs[i]? = some y → (defScope st).names.lookup y = some .globalImplicit)
    (wk : W.K = K) (hlen : ∀ as M Ψ T, dsp as M Ψ T → as.length = ps.length)
    (body : ∀ (C : Ctx), Cok C P w K mg base N gs Vi Vi k → PassesOwn (model C.X.prog C.X.w) C.X.A C.X.env C.X.xe → C.X.stack = C.X.env :: C.X.outer → C.X.env.frame = some C.X.env.locals → C.W = W → C.n0 = n0 → (∃ f cdv A outer s H E, C.X = cxOf (L2.CX P w) P w K mg base N qual (defScope st) f cdv A outer s H E) → ∀ as M Ψ T, M.length = n0 → C.T = (fun c ds _ M => T c ds (M.take n0)) → dsp as M Ψ T →
      WS C (defBody st) (rho0 N as) M { nx := fun _ M' => Ψ (.d .non) (M'.take n0), rt := Ψ }) :
    FnOk P w K mg base (L2.CX P w) (k + 1) f fd ps (spOf W n0 dsp) := by
  refine F.okX S (fun vs H Q E h => ?_) (fun cdv A outer s H vs Q E hr h => ?_)
  · obtain ⟨S, α, M, as, Ψ, T, em, hl, r, hd, _⟩ := h
    rw [repsA_len r]; exact hlen _ _ _ _ hd
  · obtain ⟨S', α, M, as, Ψ, T, em, hl, r, hd, hq, hx⟩ := h
    let X := cxOf (L2.CX P w) P w K mg base N qual (defScope st) f cdv A outer s H E
    have tk : Takes X (fun c d _ H' => E c d H') := takes_of rfl rfl rfl rfl
    let C : Ctx := ⟨X, W, n0, fun c ds _ M => T c ds (M.take n0)⟩
    have ok : Cok C P w K mg base N gs Vi Vi k :=
      ⟨rfl, rfl, rfl, rfl, rfl, wk, rfl, S.nd, fun i y hi e => by rcases vis i y hi e with z | z; exact .inl z; exact .inr (.inl z), fun i y hi e => ⟨vis i y hi e, .inl rfl⟩, fun i y e => gl i y e, rfl, hr⟩
    refine ⟨uSs X (defBody st), pss_u, ?_⟩
    have bd := body C ok (passes_of rfl) rfl rfl rfl rfl ⟨_, _, _, _, _, _, _, rfl⟩ as M Ψ T hl rfl hd
    have e0 : α.length = n0 := by rw [← em.len]; exact hl
    refine bd.run S' α H α (L2.start N vs) H _ ⟨e0, em.trA, _, tk, fun c ds ρ M1 α1 σ1 H1 cls dA t ev g xr => ?_⟩ Gr0.refl (ev_start em r) ⟨fun ρ' M' α' σ' H' p ev' g' => ?_, fun a M' α' v H' p em' g' r' => ?_, fun _ _ _ _ _ z => z.elim, fun _ _ _ _ _ z => z.elim⟩
    · -- an exception leaves
      obtain ⟨β, eβ, gβ⟩ := g
      have e2 : α1.take n0 = α := by rw [eβ, ← e0]; simp
      have em2 := ev.em.take n0
      rw [e2] at em2
      refine hx c ds _ [] H1 cls dA t (by rw [app_nil]; exact em2) ⟨gβ.kp, gβ.st, fun l hl => by simp at hl⟩ ?_
      obtain ⟨e1, xr⟩ := xr
      rw [app_nil]
      refine ⟨e1, xr.imp id ?_⟩
      rintro ⟨dd, us, e2, n, hh, hl, rr⟩
      have sub : ∀ b, Av S' α b → Av S' α1 b := fun b z => by rw [eβ]; exact av_mono z
      exact ⟨dd, us, e2, fun z => n (sub _ z), hh, hl, Reps.less (fun b z => sub b z) rr⟩
    · obtain ⟨β, eβ, gβ⟩ := g'
      have e2 : α'.take n0 = α := by rw [eβ, ← e0]; simp
      have em2 := ev'.em.take n0
      rw [e2] at em2
      exact hq (.d .non) _ [] .non H' p (by rw [app_nil]; exact em2) ⟨gβ.kp, gβ.st, fun l hl => by simp at hl⟩ rfl
    · obtain ⟨β, eβ, gβ⟩ := g'
      subst eβ
      exact hq a M' β v H' p em' gβ r'
end
end Dl

/-! DL6: assignments, loops, fields, instances. -/
namespace Dl
open PySem L2

section
variable {P : Program} {w : World} {K : PySem.W.Frag} {mg : Str → Option Value} {base : Heap} {N gs ps : List Str} {Vi Li : List Nat} {k : Nat}
variable {C : Ctx} {e e2 a b c o : Expr} {es : List Expr} {st : Stmt} {sts : List Stmt} {ρ : Rho} {M : Mm} {Φ : Kn} {Ψ : AV → Mm → Prop} {x y : Str} {pos p pos' : Pos}

theorem Ev.set {W : Wd} {S : Addr → Prop} {α : Als} {σ : L2.St} {H : Hp} {v : AV} {u : V} (ev : Ev W S α ρ M σ H) (i : Nat) (r : RepA W S α H v u) : Ev W S α (ρ.set i (some v)) M (σ.set i (some u)) H := by
  refine ⟨ev.em, by simp [ev.len], fun j a hj => ?_⟩
  by_cases h : i = j
  · subst h
    by_cases hl : i < ρ.length
    · rw [List.getElem?_set_self hl] at hj; cases hj
      exact ⟨u, by rw [List.getElem?_set_self (by rw [ev.len]; exact hl)], r⟩
    · rw [List.getElem?_eq_none (by simpa using hl)] at hj; cases hj
  · rw [List.getElem?_set_ne h] at hj
    obtain ⟨v', h1, h2⟩ := ev.sl j a hj
    exact ⟨v', by rw [List.getElem?_set_ne h]; exact h1, h2⟩
/-- what is wanted, of names and store in a normal form -/
def Nrm (ρ : Rho) (M : Mm) (R : Rho → Mm → Prop) : Prop := ∃ ρ' M', ρ = ρ' ∧ M = M' ∧ R ρ' M'
theorem Nrm.out {R : Rho → Mm → Prop} (h : Nrm ρ M R) : R ρ M := by
  obtain ⟨_, _, rfl, rfl, h⟩ := h; exact h
theorem w1_set (ok : Cok C P w K mg base N gs Vi Li k) (i : Nat) (hN : N[i]? = some x) (hL : i ∈ Li) (h : WE C e ρ M fun v M' => Nrm (ρ.set i (some v)) M' Φ.nx)
    (hs : swapsWith e (some (.Name x pos')) pos.line C.X.env = pure false := by rfl) : W1 C (.Assign [.Name x pos'] e pos) ρ M Φ := by
  obtain ⟨l1, l2⟩ := ok.loc i x hL hN
  refine ⟨fun S α0 H0 α σ H D bs g ev f => uS_of (ps_set (i := i) (by rw [ok.nE]; exact ok.nd) (by rw [ok.nE]; exact hN) l1 pe_u hs l2) ?_⟩
  show uE C.X e σ H fun u H1 => D.nx (σ.set i (some u)) H1
  refine h.run S α0 H0 α σ H _ bs g ev fun v M1 β u H1 p1 em1 g1 r1 => ?_
  exact f.nx _ M1 (α ++ β) _ H1 p1.out ((ev.up g1 em1).set i r1) (g.trans g1)
/-- a, b = x, y -/
theorem w1_par (ok : Cok C P w K mg base N gs Vi Li k) (i j : Nat) {px py pt pt2 : Pos} {kt k2 : Nat} (hi : N[i]? = some x) (hj : N[j]? = some y) (hij : i ≠ j)
    (hx : C.X.env.scope.names.lookup x = some .local) (hy : C.X.env.scope.names.lookup y = some .local)
    (h : WA C [a, b] ρ M fun as M' => ∃ u v, as = [u, v] ∧ Nrm ((ρ.set i (some u)).set j (some v)) M' Φ.nx)
    (hw : swappedStores [.Tuple [.Name x px, .Name y py] kt pt] (.Tuple [a, b] k2 pt2) C.X.env = pure (some [x, y]))
    (hs : swapsWithSole [.Tuple [.Name x px, .Name y py] kt pt] (.Tuple [a, b] k2 pt2) pos.line C.X.env = pure false := by rfl) :
    W1 C (.Assign [.Tuple [.Name x px, .Name y py] kt pt] (.Tuple [a, b] k2 pt2) pos) ρ M Φ := by
  refine ⟨fun S α0 H0 α σ H D bs g ev f => uS_of (ps_par ok.calm (by rw [ok.nE]; exact ok.nd) (by rw [ok.nE]; exact hi) (by rw [ok.nE]; exact hj) hij hx hy pa_u hw hs) ?_⟩
  refine h.run S α0 H0 α σ H _ bs g ev fun as M1 β vs H1 p1 em1 g1 r1 => ?_
  obtain ⟨u, v, e, p1⟩ := p1
  subst e
  obtain ⟨u', v', e, h1, h2⟩ := reps2 r1
  exact ⟨u', v', e, f.nx _ M1 (α ++ β) _ H1 p1.out (((ev.up g1 em1).set i h1).set j h2) (g.trans g1)⟩

/-! ### targets -/
def uGs (X : Cx) (ts : List Expr) : TGs := fun vs σ H Q => ∀ pins s us, Inv X pins σ H s → Vals vs us → wpAny (model X.prog X.w) X.A (assignInOrder ((assignEach ts X.env).map (·.2)) us) (fun _ s' => ∃ σ' H', Inv X pins σ' H' s' ∧ Q σ' H') X.xe s
theorem pgs_u {X : Cx} {ts : List Expr} : PGs X ts (uGs X ts) := ⟨fun pins s _ _ _ us _ I r h => h pins s us I r⟩
theorem uGs_of {X : Cx} {ts : List Expr} {t : TGs} {vs : List V} {σ : L2.St} {H : Hp} {Q : L2.St → Hp → Prop} (p : PGs X ts t) (h : t vs σ H Q) : uGs X ts vs σ H Q := fun pins s us I r => p.run pins s σ H vs us Q I r h
abbrev PostG (C : Ctx) (S : Addr → Prop) (α : Als) (H : Hp) (Ψ : Rho → Mm → Prop) (Q : L2.St → Hp → Prop) : Prop :=
  ∀ ρ' M' β σ' H', Ψ ρ' M' → Ev C.W S (α ++ β) ρ' M' σ' H' → Gr α β H H' → Q σ' H'
theorem thnG {S : Addr → Prop} {α β : Als} {H H1 : Hp} {Ψ : Rho → Mm → Prop} {Q : L2.St → Hp → Prop} (q : PostG C S α H Ψ Q) (g : Gr α β H H1) : PostG C S (α ++ β) H1 Ψ Q := fun ρ' M' γ σ' H' p ev g2 =>
  q ρ' M' (β ++ γ) σ' H' p (by rw [← List.append_assoc]; exact ev) (g.trans g2)
structure WGs (C : Ctx) (ts : List Expr) (ds : List D) (ρ : Rho) (M : Mm) (Ψ : Rho → Mm → Prop) : Prop where
  run : ∀ S α σ H (Q : L2.St → Hp → Prop) vs, Ev C.W S α ρ M σ H → Reps C.W (Av S α) H ds vs → PostG C S α H Ψ Q → uGs C.X ts vs σ H Q
theorem wg_name {v : AV} {Ψ : Rho → Mm → Prop} (ok : Cok C P w K mg base N gs Vi Li k) (i : Nat) (hN : N[i]? = some x) (hL : i ∈ Li) (h : Nrm (ρ.set i (some v)) M Ψ) : WG C (.Name x pos) v ρ M Ψ := by
  obtain ⟨l1, l2⟩ := ok.loc i x hL hN
  refine ⟨fun S α σ H Q u ev r q => uG_of (pg_name (i := i) (by rw [ok.nE]; exact ok.nd) (by rw [ok.nE]; exact hN) l1 l2) ?_⟩
  exact q _ M [] _ H h.out (by rw [app_nil]; exact ev.set i r) Gr.refl
theorem wgs_nil {Ψ : Rho → Mm → Prop} (h : Ψ ρ M) : WGs C [] [] ρ M Ψ :=
  ⟨fun S α σ H Q vs ev r q => uGs_of pgs_nil ⟨r, q ρ M [] σ H h (by rw [app_nil]; exact ev) Gr.refl⟩⟩
theorem wgs_cons {d : D} {ds : List D} {Ψ : Rho → Mm → Prop} (h : WG C e (.d d) ρ M fun ρ1 M1 => WGs C es ds ρ1 M1 Ψ)
    (hs : (assignEach (e :: es) C.X.env).map (·.2) = assign e C.X.env :: (assignEach es C.X.env).map (·.2) := by rfl) : WGs C (e :: es) (d :: ds) ρ M Ψ := by
  refine ⟨fun S α σ H Q vs ev r q => ?_⟩
  obtain ⟨v, r2, e1, h1, h2⟩ := (show ∃ v r, vs = v :: r ∧ Rep C.W (Av S α) H d v ∧ Reps C.W (Av S α) H ds r from r)
  refine uGs_of (pgs_cons pg_u pgs_u hs) ⟨v, r2, e1, ?_⟩
  refine h.run S α σ H _ v ev h1 fun ρ1 M1 β σ1 H1 p1 ev1 g1 => ?_
  exact p1.run S (α ++ β) σ1 H1 Q r2 ev1 (h2.up g1) (thnG q g1)
theorem wg_tup {ds : List D} {n : Nat} {Ψ : Rho → Mm → Prop} (ok : Cok C P w K mg base N gs Vi Li k) (h : WGs C es ds ρ M Ψ)
    (hn : (assignEach es C.X.env).length = ds.length := by rfl) (hst : (assignEach es C.X.env).findIdx? (·.1) = none := by rfl) : WG C (.Tuple es n pos) (.d (.tup ds)) ρ M Ψ := by
  refine ⟨fun S α σ H Q v ev r q => uG_of (pg_tup (n := ds.length) ok.calm pgs_u hn hst) ?_⟩
  obtain ⟨a, vs, e, t, rr⟩ := (show ∃ a vs, v = .ref a ∧ TSq C.W (Av S α) H a vs ∧ Reps C.W (Av S α) H ds vs from r)
  exact ⟨a, vs, e, ok.wk ▸ t.sq, reps_len rr, h.run S α σ H Q vs ev rr q⟩
/-- target = value -/
theorem w1_asg {tg : Expr} (h : WE C e ρ M fun v M' => WG C tg v ρ M' Φ.nx) (hs : swapsWithSole [tg] e pos.line C.X.env = pure false := by rfl) (hw : swappedStores [tg] e C.X.env = pure none := by rfl)
    (h1 : (assignEach [tg] C.X.env).map (·.2) = [assign tg C.X.env] := by rfl) : W1 C (.Assign [tg] e pos) ρ M Φ := by
  refine ⟨fun S α0 H0 α σ H D bs g ev f => uS_of (ps_asg pe_u pg_u hs hw h1) ?_⟩
  show uE C.X e σ H fun u H1 => uG C.X tg u σ H1 D.nx
  refine h.run S α0 H0 α σ H _ bs g ev fun v M1 β u H1 p1 em1 g1 r1 => ?_
  refine p1.run S (α ++ β) σ H1 _ u (ev.up g1 em1) r1 fun ρ' M' γ σ' H' p' ev' g' => ?_
  exact f.nx ρ' M' (α ++ β ++ γ) σ' H' p' ev' ((g.trans g1).trans g')

/-! ### while -/
theorem w1_while {body : List Stmt} (own : PassesOwn (model C.X.prog C.X.w) C.X.A C.X.env C.X.xe) (Iv : Nat → Rho → Mm → Prop) (m0 : Nat) (h0 : Iv m0 ρ M)
    (h : ∀ m ρ' M', Iv m ρ' M' → WT C c ρ' M' fun t M2 => (t = true → WS C body ρ' M2 { nx := fun ρ3 M3 => ∃ m', m' < m ∧ Iv m' ρ3 M3, ct := fun ρ3 M3 => ∃ m', m' < m ∧ Iv m' ρ3 M3, bk := Φ.nx, rt := Φ.rt }) ∧ (t = false → Φ.nx ρ' M2)) :
    W1 C (.While c body [] pos) ρ M Φ := by
  refine ⟨fun S α0 H0 α σ H D bs g ev f => uS_of (ps_while own pt_u pss_u) ?_⟩
  refine ⟨fun m σ H => ∃ ρ M α, Iv m ρ M ∧ Ev C.W S α ρ M σ H ∧ Gr0 α0 α H0 H, ⟨m0, ρ, M, α, h0, ev, g⟩, ?_⟩
  rintro m σ1 H1 ⟨ρ1, M1, α1, i1, ev1, g1⟩
  refine (h m ρ1 M1 i1).run S α0 H0 α1 σ1 H1 _ bs g1 ev1 fun t M2 β H2 p2 em2 g2 => ?_
  cases t with
  | true =>
    rw [if_pos rfl]
    refine ⟨fun σ' H' => ∃ m', m' < m ∧ ∃ ρ M α, Iv m' ρ M ∧ Ev C.W S α ρ M σ' H' ∧ Gr0 α0 α H0 H', fun σ' H' z => z, ?_⟩
    refine (p2.1 rfl).run S α0 H0 _ σ1 H2 _ bs (g1.trans g2) (ev1.up g2 em2) ⟨fun ρ' M' α' σ' H' ⟨m', lt, z⟩ ev' g' => ⟨m', lt, ρ', M', α', z, ev', g'⟩, f.rt, f.nx, fun ρ' M' α' σ' H' ⟨m', lt, z⟩ ev' g' => ⟨m', lt, ρ', M', α', z, ev', g'⟩⟩
  | false =>
    rw [if_neg Bool.false_ne_true]
    exact f.nx ρ1 M2 _ σ1 H2 (p2.2 rfl) (ev1.up g2 em2) (g1.trans g2)

/-! ### for -/
/-- inside a loop that begins with n things -/
abbrev Ctx.at (C : Ctx) (n : Nat) : Ctx := { C with n0 := n }
theorem Cok.at (ok : Cok C P w K mg base N gs Vi Li k) (n : Nat) : Cok (C.at n) P w K mg base N gs Vi Li k :=
  ⟨ok.prog, ok.wE, ok.kE, ok.mgE, ok.baseE, ok.WK, ok.nE, ok.nd, ok.vis, ok.loc, ok.gl, ok.calm, ok.room⟩
theorem Bs.at {S : Addr → Prop} {α0 α : Als} {H0 H : Hp} (bs : Bs C S α0 H0) (g : Gr0 α0 α H0 H) (em : EM C.W S α M H) : Bs (C.at M.length) S α H := by
  obtain ⟨Wx, tk, ht⟩ := bs.tk
  refine ⟨em.len.symm, em.trA, Wx, tk, fun c ds ρ M1 α1 σ H1 cls dA t ev g1 xr => ht c ds ρ M1 α1 σ H1 cls dA t ev ?_ xr⟩
  obtain ⟨β, e, g1⟩ := g1
  subst e
  exact g.trans g1
theorem Gr0.join {α0 α α' : Als} {H0 H H' : Hp} (g : Gr0 α0 α H0 H) (g1 : Gr0 α α' H H') : Gr0 α0 α' H0 H' := by
  obtain ⟨β, e, g1⟩ := g1
  subst e
  exact g.trans g1
/-- what follows a loop, seen from within -/
abbrev Kn.out (Φ : Kn) (n0 : Nat) (Iv : Rho → Mm → Prop) : Kn := { nx := Iv, ct := Iv, bk := Φ.nx, rt := fun a M => Clo n0 a M Φ.rt }
/-- the turns of an iterator: it yields the items ds -/
structure Yl (C : Ctx) (S : Addr → Prop) (α : Als) (H : Hp) (J : It) (n : Nat) (ds : Nat → Option D) (G : Als → Hp → Prop) : Prop where
  go : ∀ i α' H', i < n → G α' H' → J.go i H'
  stop : ∀ α' H', G α' H' → J.stop n H'
  yld : ∀ i α' H' x H'' M', i < n → G α' H' → Gr0 α α' H H' → EM C.W S α' M' H' → J.yld i H' x H'' → Same H' H'' ∧ ∃ d, ds i = some d ∧ Rep C.W (Av S α') H'' d x
theorem for_core {S : Addr → Prop} {α0 α : Als} {H0 H : Hp} {σ : L2.St} {D' : Ends} {tg : Expr} {body : List Stmt} {J : It} {n : Nat} {ds : Nat → Option D} {G : Als → Hp → Prop}
    (bs : Bs C S α0 H0) (g : Gr0 α0 α H0 H) (ev : Ev C.W S α ρ M σ H) (f : Fin C S α0 H0 Φ D') (Y : Yl C S α H J n ds G) (Iv : Nat → Rho → Mm → Prop) (h0 : Iv 0 ρ M)
    (hG : ∀ i ρ' M' α' σ' H', i ≤ n → Iv i ρ' M' → Ev C.W S α' ρ' M' σ' H' → Gr0 α α' H H' → G α' H')
    (hs : ∀ i d ρ' M', i < n → ds i = some d → Iv i ρ' M' → WG C tg (.d d) ρ' M' fun ρ2 M2 => WS (C.at M.length) body ρ2 M2 (Φ.out C.n0 (Iv (i + 1))))
    (hd : ∀ ρ' M', Iv n ρ' M' → Φ.nx ρ' M') :
    ∃ W : Nat → Nat → L2.St → Hp → Prop, (∃ m, W 0 m σ H) ∧ ∀ i m σ H, W i m σ H →
      (J.stop i H ∧ D'.nx σ H) ∨ (J.go i H ∧ ∃ N : L2.St → Hp → Prop, (∀ σ' H', N σ' H' → ∃ m', m' < m ∧ W (i + 1) m' σ' H') ∧ ∀ x H', J.yld i H x H' → uG C.X tg x σ H' fun σ2 H2 => uSs C.X body { D' with nx := N, ct := N, bk := D'.nx } σ2 H2) := by
  refine ⟨fun i m σ' H' => m = n - i ∧ i ≤ n ∧ ∃ ρ M α', Iv i ρ M ∧ Ev C.W S α' ρ M σ' H' ∧ Gr0 α α' H H', ⟨n, by simp, Nat.zero_le _, ρ, M, α, h0, ev, Gr0.refl⟩, ?_⟩
  rintro i m σ1 H1 ⟨rfl, hi, ρ1, M1, α1, i1, ev1, g1⟩
  have G1 := hG i ρ1 M1 α1 σ1 H1 hi i1 ev1 g1
  by_cases hlt : i < n
  · refine .inr ⟨Y.go i α1 H1 hlt G1, fun σ' H' => ∃ ρ M α', Iv (i + 1) ρ M ∧ Ev C.W S α' ρ M σ' H' ∧ Gr0 α α' H H', fun σ' H' ⟨ρ', M', α', z⟩ => ⟨n - (i + 1), by omega, rfl, hlt, ρ', M', α', z⟩, fun x H2 y => ?_⟩
    obtain ⟨sm, d, hd', r⟩ := Y.yld i α1 H1 x H2 M1 hlt G1 g1 ev1.em y
    have em2 := ev1.em.on' sm
    have g2 : Gr α1 [] H1 H2 := Gr.same sm
    have ev2 : Ev C.W S α1 ρ1 M1 σ1 H2 := by have z := ev1.up g2 em2; rw [app_nil] at z; exact z
    have gg : Gr0 α α1 H H2 := by have z := g1.trans g2; rw [app_nil] at z; exact z
    refine (hs i d ρ1 M1 hlt hd' i1).run S α1 σ1 H2 _ x ev2 r fun ρ3 M3 β σ3 H3 p3 ev3 g3 => ?_
    refine p3.run S α H (α1 ++ β) σ3 H3 _ (bs.at g ev.em) (gg.trans g3) ev3 ⟨fun ρ' M' α' σ' H' z ev' g' => ⟨ρ', M', α', z, ev', g'⟩, fun a M' α' v H' z em' g' r' => ?_, fun ρ' M' α' σ' H' z ev' g' => f.nx ρ' M' α' σ' H' z ev' (g.join g'), fun ρ' M' α' σ' H' z ev' g' => ⟨ρ', M', α', z, ev', g'⟩⟩
    obtain ⟨a', M2, α2, z1, z2, z3, z4⟩ := clo_ok bs (g.join g') em' r' z
    exact f.rt a' M2 α2 v H' z1 z2 z3 z4
  · have e : i = n := by omega
    subst e
    exact .inl ⟨Y.stop α1 H1 G1, f.nx ρ1 M1 α1 σ1 H1 (hd ρ1 M1 i1) ev1 (g.join g1)⟩

/-- for x in range(n), range(a, b) -/
theorem yl_range {S : Addr → Prop} {α : Als} {H : Hp} {lo : Int} {n : Nat} : Yl C S α H (Itr lo n) n (fun i => some (.int (lo + i))) fun _ _ => True where
  go := fun i α' H' hi _ => hi
  stop := fun α' H' _ => Nat.le_refl _
  yld := fun i α' H' x H'' M' hi _ _ _ y => by
    obtain ⟨e, e2⟩ := (show H'' = H' ∧ x = .int (lo + i) from y)
    subst e
    exact ⟨Same.refl _, _, rfl, e2⟩
theorem w1_forR {tg : Expr} {body : List Stmt} {ix : Nat} (ok : Cok C P w K mg base N gs Vi Li k) (hN : gs[ix]? = some ("range" : Str)) (hm : mg "range" = none) (own : PassesOwn (model C.X.prog C.X.w) C.X.A C.X.env C.X.xe)
    (h : WE C a ρ M fun v M1 => ∃ n : Int, v = .d (.int n) ∧ (-1000000000 ≤ n ∧ n ≤ 1000000000) ∧ ∃ Iv : Nat → Rho → Mm → Prop, Iv 0 ρ M1 ∧
      (∀ (i : Nat) ρ' M', i < n.toNat → Iv i ρ' M' → WG C tg (.d (.int i)) ρ' M' fun ρ2 M2 => WS (C.at M1.length) body ρ2 M2 (Φ.out C.n0 (Iv (i + 1)))) ∧ ∀ ρ' M', Iv n.toNat ρ' M' → Φ.nx ρ' M')
    (hs : starEach [a] C.X.env = [(false, eval a C.X.env)] := by rfl) (hs1 : starEach [a] C.X.env = (false, eval a C.X.env) :: starEach [] C.X.env := by rfl) (hf : ∀ x, foldedSetIterable (.Call (.Name "range" p) [a] [] pos') C.X.env x = pure x := by intro _; rfl) :
    W1 C (.For tg (.Call (.Name "range" p) [a] [] pos') body [] pos) ρ M Φ := by
  refine ⟨fun S α0 H0 α σ H D bs g ev f => uS_of (ps_for own ok.calm (pi_range1 (ok.gl ix _ hN) (by rw [ok.mgE]; exact hm) (pa_cons pe_u pa_nil hs1) hs) pg_u pss_u hf) ?_⟩
  refine h.run S α0 H0 α σ H _ bs g ev fun v M1 β u H1 p1 em1 g1 r1 => ?_
  obtain ⟨n, e, ⟨hn1, hn2⟩, Iv, h0, h1, h2⟩ := p1
  subst e
  refine ⟨n, by rw [show u = .int n from r1], by omega, by omega, ?_⟩
  refine for_core bs (g.trans g1) (ev.up g1 em1) f (yl_range (lo := 0) (n := n.toNat)) Iv h0 (fun _ _ _ _ _ _ _ _ _ _ => trivial) (fun i d ρ' M' hi e hI => ?_) h2
  cases e
  rw [Int.zero_add]
  exact h1 i ρ' M' hi hI
theorem w1_forR2 {tg : Expr} {body : List Stmt} {ix : Nat} (ok : Cok C P w K mg base N gs Vi Li k) (hN : gs[ix]? = some ("range" : Str)) (hm : mg "range" = none) (own : PassesOwn (model C.X.prog C.X.w) C.X.A C.X.env C.X.xe)
    (h : WE C a ρ M fun v M1 => WE C b ρ M1 fun v2 M2 => ∃ l n : Int, v = .d (.int l) ∧ v2 = .d (.int n) ∧ (-1000000000 ≤ l ∧ l ≤ 1000000000 ∧ -1000000000 ≤ n ∧ n ≤ 1000000000) ∧ ∃ Iv : Nat → Rho → Mm → Prop, Iv 0 ρ M2 ∧
      (∀ (i : Nat) ρ' M', i < (n - l).toNat → Iv i ρ' M' → WG C tg (.d (.int (l + i))) ρ' M' fun ρ2 M3 => WS (C.at M2.length) body ρ2 M3 (Φ.out C.n0 (Iv (i + 1)))) ∧ ∀ ρ' M', Iv (n - l).toNat ρ' M' → Φ.nx ρ' M')
    (hs : starEach [a, b] C.X.env = [(false, eval a C.X.env), (false, eval b C.X.env)] := by rfl) (hs2 : starEach [b] C.X.env = [(false, eval b C.X.env)] := by rfl)
    (hs3 : starEach [a, b] C.X.env = (false, eval a C.X.env) :: starEach [b] C.X.env := by rfl) (hs4 : starEach [b] C.X.env = (false, eval b C.X.env) :: starEach [] C.X.env := by rfl) (hf : ∀ x, foldedSetIterable (.Call (.Name "range" p) [a, b] [] pos') C.X.env x = pure x := by intro _; rfl) :
    W1 C (.For tg (.Call (.Name "range" p) [a, b] [] pos') body [] pos) ρ M Φ := by
  refine ⟨fun S α0 H0 α σ H D bs g ev f => uS_of (ps_for own ok.calm (pi_range2 (ok.gl ix _ hN) (by rw [ok.mgE]; exact hm) (pa_cons pe_u (pa_cons pe_u pa_nil hs4) hs3) hs hs2) pg_u pss_u hf) ?_⟩
  refine h.run S α0 H0 α σ H _ bs g ev fun v M1 β u H1 p1 em1 g1 r1 => ?_
  refine p1.run S α0 H0 (α ++ β) σ H1 _ bs (g.trans g1) (ev.up g1 em1) fun v2 M2 β2 u2 H2 p2 em2 g2 r2 => ?_
  obtain ⟨l, n, e, e2, ⟨hl1, hl2, hn1, hn2⟩, Iv, h0, h1, h2⟩ := p2
  subst e; subst e2
  refine ⟨l, n, by rw [show u = .int l from r1, show u2 = .int n from r2], by omega, ?_⟩
  refine for_core bs ((g.trans g1).trans g2) ((ev.up g1 em1).up g2 em2) f (yl_range (lo := l) (n := (n - l).toNat)) Iv h0 (fun _ _ _ _ _ _ _ _ _ _ => trivial) (fun i d ρ' M' hi e hI => ?_) h2
  cases e
  exact h1 i ρ' M' hi hI

/-! ### for over a list or tuple -/
/-- how the items of v can be walked from now on: v is a value, or the loop leaves the thing as it is -/
theorem yl_list {S : Addr → Prop} {α : Als} {H : Hp} {p : Addr} {vs : List V} {ds : List D} (wk : C.W.K = C.X.K) (rr : Reps C.W (Av S α) H ds vs) : Yl C S α H (Itl C.X.K p) ds.length (fun i => ds[i]?) fun _ H' => SqL C.X.K H' p vs := by
  have hl := reps_len rr
  refine ⟨fun i α' H' hi q => ⟨vs, vs[i]'(by omega), q, by simp [hl, hi]⟩, fun α' H' q => ⟨vs, q, by omega⟩, fun i α' H' x H'' M' hi q g em y => ?_⟩
  obtain ⟨e, y⟩ := (show H'' = H' ∧ ∀ xs, SqL C.X.K H' p xs → xs[i]? = some x from y)
  subst e
  obtain ⟨d, h1, h2⟩ := reps_get' rr (y vs q)
  refine ⟨Same.refl _, d, h1, ?_⟩
  obtain ⟨β, e, g⟩ := g
  subst e
  exact h2.up g
theorem yl_tup {S : Addr → Prop} {α : Als} {H : Hp} {p : Addr} {vs : List V} {ds : List D} (wk : C.W.K = C.X.K) (rr : Reps C.W (Av S α) H ds vs) : Yl C S α H (Itt C.X.K p) ds.length (fun i => ds[i]?) fun _ H' => SqT C.X.K H' p vs := by
  have hl := reps_len rr
  refine ⟨fun i α' H' hi q => ⟨vs, vs[i]'(by omega), q, by simp [hl, hi]⟩, fun α' H' q => ⟨vs, q, by omega⟩, fun i α' H' x H'' M' hi q g em y => ?_⟩
  obtain ⟨e, y⟩ := (show H'' = H' ∧ ∀ xs, SqT C.X.K H' p xs → xs[i]? = some x from y)
  subst e
  obtain ⟨d, h1, h2⟩ := reps_get' rr (y vs q)
  refine ⟨Same.refl _, d, h1, ?_⟩
  obtain ⟨β, e, g⟩ := g
  subst e
  exact h2.up g
theorem LSq.on {S : Addr → Prop} {α α' : Als} {H H' : Hp} {p : Addr} {vs : List V} (h : LSq C.W (Av S α) H p vs) (g : Gr0 α α' H H') : SqL C.W.K H' p vs := by
  obtain ⟨β, e, g⟩ := g
  exact (LSq.tr (S' := Av S α) h (fun b z => .inl z) fun b o n e => g.kp b o (fun l hl z => n (.inr ⟨l, hl, z⟩)) e).sq
theorem TSq.on {S : Addr → Prop} {α α' : Als} {H H' : Hp} {p : Addr} {vs : List V} (h : TSq C.W (Av S α) H p vs) (g : Gr0 α α' H H') : SqT C.W.K H' p vs := by
  obtain ⟨β, e, g⟩ := g
  exact (TSq.tr (S' := Av S α) h (fun b z => .inl z) fun b o n e => g.kp b o (fun l hl z => n (.inr ⟨l, hl, z⟩)) e).sq
/-- for x in a list: a value -/
theorem w1_forL {tg iter : Expr} {body : List Stmt} (ok : Cok C P w K mg base N gs Vi Li k) (own : PassesOwn (model C.X.prog C.X.w) C.X.A C.X.env C.X.xe)
    (h : WE C iter ρ M fun v M1 => ∃ ds, v = .d (.lst ds) ∧ ∃ Iv : Nat → Rho → Mm → Prop, Iv 0 ρ M1 ∧
      (∀ (i : Nat) d ρ' M', i < ds.length → ds[i]? = some d → Iv i ρ' M' → WG C tg (.d d) ρ' M' fun ρ2 M2 => WS (C.at M1.length) body ρ2 M2 (Φ.out C.n0 (Iv (i + 1)))) ∧ ∀ ρ' M', Iv ds.length ρ' M' → Φ.nx ρ' M')
    (hf : ∀ x, foldedSetIterable iter C.X.env x = pure x := by intro _; rfl) : W1 C (.For tg iter body [] pos) ρ M Φ := by
  refine ⟨fun S α0 H0 α σ H D bs g ev f => uS_of (ps_for own ok.calm (pi_list pe_u) pg_u pss_u hf) ?_⟩
  refine h.run S α0 H0 α σ H _ bs g ev fun v M1 β u H1 p1 em1 g1 r1 => ?_
  obtain ⟨ds, e, Iv, h0, h1, h2⟩ := p1
  subst e
  obtain ⟨a, vs, e, t, rr⟩ := (show ∃ a vs, u = .ref a ∧ LSq C.W (Av S (α ++ β)) H1 a vs ∧ Reps C.W (Av S (α ++ β)) H1 ds vs from r1)
  refine ⟨a, e, ⟨vs, ok.wk ▸ t.sq⟩, ?_⟩
  exact for_core bs (g.trans g1) (ev.up g1 em1) f (yl_list ok.wk rr) Iv h0 (fun i ρ' M' α' σ' H' _ _ _ gg => ok.wk ▸ t.on gg) h1 h2
theorem w1_forT {tg iter : Expr} {body : List Stmt} (ok : Cok C P w K mg base N gs Vi Li k) (own : PassesOwn (model C.X.prog C.X.w) C.X.A C.X.env C.X.xe)
    (h : WE C iter ρ M fun v M1 => ∃ ds, v = .d (.tup ds) ∧ ∃ Iv : Nat → Rho → Mm → Prop, Iv 0 ρ M1 ∧
      (∀ (i : Nat) d ρ' M', i < ds.length → ds[i]? = some d → Iv i ρ' M' → WG C tg (.d d) ρ' M' fun ρ2 M2 => WS (C.at M1.length) body ρ2 M2 (Φ.out C.n0 (Iv (i + 1)))) ∧ ∀ ρ' M', Iv ds.length ρ' M' → Φ.nx ρ' M')
    (hf : ∀ x, foldedSetIterable iter C.X.env x = pure x := by intro _; rfl) : W1 C (.For tg iter body [] pos) ρ M Φ := by
  refine ⟨fun S α0 H0 α σ H D bs g ev f => uS_of (ps_for own ok.calm (pi_tup pe_u) pg_u pss_u hf) ?_⟩
  refine h.run S α0 H0 α σ H _ bs g ev fun v M1 β u H1 p1 em1 g1 r1 => ?_
  obtain ⟨ds, e, Iv, h0, h1, h2⟩ := p1
  subst e
  obtain ⟨a, vs, e, t, rr⟩ := (show ∃ a vs, u = .ref a ∧ TSq C.W (Av S (α ++ β)) H1 a vs ∧ Reps C.W (Av S (α ++ β)) H1 ds vs from r1)
  refine ⟨a, e, ⟨vs, ok.wk ▸ t.sq⟩, ?_⟩
  exact for_core bs (g.trans g1) (ev.up g1 em1) f (yl_tup ok.wk rr) Iv h0 (fun i ρ' M' α' σ' H' _ _ _ gg => ok.wk ▸ t.on gg) h1 h2
/-- .. a list of the store that the body leaves as it is -/
theorem w1_forM {tg iter : Expr} {body : List Stmt} (ok : Cok C P w K mg base N gs Vi Li k) (own : PassesOwn (model C.X.prog C.X.w) C.X.A C.X.env C.X.xe)
    (h : WE C iter ρ M fun v M1 => ∃ j ds, v = .m j ∧ M1[j]? = some (.l ds) ∧ ∃ Iv : Nat → Rho → Mm → Prop, Iv 0 ρ M1 ∧ (∀ i ρ' M', Iv i ρ' M' → M'[j]? = some (.l ds)) ∧
      (∀ (i : Nat) d ρ' M', i < ds.length → ds[i]? = some d → Iv i ρ' M' → WG C tg (.d d) ρ' M' fun ρ2 M2 => WS (C.at M1.length) body ρ2 M2 (Φ.out C.n0 (Iv (i + 1)))) ∧ ∀ ρ' M', Iv ds.length ρ' M' → Φ.nx ρ' M')
    (hf : ∀ x, foldedSetIterable iter C.X.env x = pure x := by intro _; rfl) : W1 C (.For tg iter body [] pos) ρ M Φ := by
  refine ⟨fun S α0 H0 α σ H D bs g ev f => uS_of (ps_for own ok.calm (pi_list pe_u) pg_u pss_u hf) ?_⟩
  refine h.run S α0 H0 α σ H _ bs g ev fun v M1 β u H1 p1 em1 g1 r1 => ?_
  obtain ⟨j, ds, e, hj, Iv, h0, hM, h1, h2⟩ := p1
  subst e
  obtain ⟨p, vs, e, ha, hh, rr⟩ := cell_l em1 hj r1
  refine ⟨p, e, ⟨vs, SqL.of hh⟩, ?_⟩
  -- the thing may lie anew at each turn: by what stands in it
  have hl := reps_len rr
  refine for_core bs (g.trans g1) (ev.up g1 em1) f (G := fun α' H' => ∃ us, H' p = some (.lst us) ∧ Reps C.W (Av S α') H' ds us) (n := ds.length) (ds := fun i => ds[i]?) ⟨fun i α' H' hi ⟨us, q, r⟩ => ?_, fun α' H' ⟨us, q, r⟩ => ?_, fun i α' H' x H'' M' hi ⟨us, q, r⟩ g em y => ?_⟩ Iv h0 (fun i ρ' M' α' σ' H' _ hI ev' gg => ?_) h1 h2
  · have hl' := reps_len r
    exact ⟨us, us[i]'(by omega), SqL.of q, by simp [hl', hi]⟩
  · have hl' := reps_len r
    exact ⟨us, SqL.of q, by omega⟩
  · obtain ⟨e, y⟩ := (show H'' = H' ∧ ∀ xs, SqL C.X.K H' p xs → xs[i]? = some x from y)
    subst e
    obtain ⟨d, h1, h2⟩ := reps_get' r (y us (SqL.of q))
    exact ⟨Same.refl _, d, h1, h2⟩
  · obtain ⟨p', us, e', ha', hh', rr'⟩ := cell_l ev'.em (hM i ρ' M' hI) (v := u) (by
      obtain ⟨γ, eγ, gγ⟩ := gg
      subst eγ
      exact r1.up gγ)
    rw [e] at e'
    cases e'
    exact ⟨us, hh', rr'⟩
end
end Dl

/-! DL7: zip of lists and tuples in any mix. -/
namespace Dl
open PySem L2

/-- a tuple (true) or a list -/
def SqB (t : Bool) (K : PySem.W.Frag) (H : Hp) (a : Addr) (xs : List V) : Prop := match t with | true => SqT K H a xs | false => SqL K H a xs
def ItB (t : Bool) (h : Heap) (it a : Addr) (i : Nat) : Prop := match t with | true => h.IsTupleIter it a i | false => h.IsListIter it a i
def IsB (t : Bool) (h : Heap) (a : Addr) (items : Array Value) : Prop := match t with | true => h.IsTuple a items | false => h.IsList a items
theorem drawsB {prog : Program} {w : World} {A : Around} (t : Bool) (hh : A.handled = none) (it a : Addr) (hne : a ≠ it) (items : Array Value) :
    Draws prog w A it [it, a] items.size (fun i v => items[i]? = some v) (fun i h => ItB t h it a i ∧ IsB t h a items) := by
  cases t with
  | true => exact Draws.tuple hh it a hne items
  | false => exact Draws.list hh it a hne items
theorem ItB.obj {t : Bool} {h : Heap} {it a : Addr} {i : Nat} (x : ItB t h it a i) : ∃ o, h.get? it = some o ∧ ∀ v, o.data ≠ .cell v := by
  cases t with
  | true => obtain ⟨o, e, c, d⟩ := x; exact ⟨o, e, fun v z => by rw [d] at z; cases z⟩
  | false => obtain ⟨o, e, c, d⟩ := x; exact ⟨o, e, fun v z => by rw [d] at z; cases z⟩
theorem ItB.at {t : Bool} {h h' : Heap} {it a : Addr} {i : Nat} (x : ItB t h it a i) (k : ∀ o, h.get? it = some o → h'.get? it = some o) : ItB t h' it a i := by
  cases t with
  | true => exact PySem.Heap.IsTupleIter.at x k
  | false => exact PySem.Heap.IsListIter.at x k
section
variable {X : Cx} {pins : List (Addr × Obj)} {σ : L2.St} {H : Hp} {s : Shared} {a : Addr} {xs ys : List V} {t : Bool}
theorem invB (I : Inv X pins σ H s) (h : SqB t X.K H a xs) : ∃ its : List Value, Vals xs its ∧ IsB t s.heap a its.toArray ∧ a < s.heap.objs.size := by
  cases t with
  | true => obtain ⟨its, r, p, _⟩ := I.tuple h; obtain ⟨o, ho, _⟩ := id p; exact ⟨its, r, p, Heap.lt_size ho⟩
  | false => obtain ⟨its, r, p, _⟩ := I.list h; exact ⟨its, r, p.isList, p.lt⟩
theorem injB (I : Inv X pins σ H s) (h : SqB t X.K H a xs) (h' : SqB t X.K H a ys) : xs = ys := by
  cases t with
  | true => exact I.tuple_inj h h'
  | false => exact I.list_inj h h'
end
def ItzG (t1 t2 : Bool) (K : PySem.W.Frag) (a b : Addr) : It :=
  ⟨fun i H => ∃ (xs ys : List V) (x y : V), SqB t1 K H a xs ∧ SqB t2 K H b ys ∧ xs[i]? = some x ∧ ys[i]? = some y,
    fun i H v H' => ∃ T x y, v = .ref T ∧ H T = none ∧ H' = upd H T (.tup [x, y]) ∧ (∀ xs, SqB t1 K H a xs → xs[i]? = some x) ∧ ∀ ys, SqB t2 K H b ys → ys[i]? = some y,
    fun i H => ∃ xs ys : List V, SqB t1 K H a xs ∧ SqB t2 K H b ys ∧ i ≤ xs.length ∧ i ≤ ys.length ∧ (xs.length = i ∨ ys.length = i)⟩
theorem turn_zipG {P : Program} {w : World} {K : PySem.W.Frag} {elts : List Expr} {kk : Nat} {tpos : Pos} {t1 t2 : Bool} {a b z TI TO i1 i2 : Addr} (D : ZipSep2 z TI TO i1 i2 [i1, a] [i2, b]) (ne1 : a ≠ i1) (ne2 : b ≠ i2) :
    Turn P w K (.Tuple elts kk tpos) (ItzG t1 t2 K a b) [z, TI, TO, i1, i2] z (fun i h => IsZip h z TI TO .none ∧ IsTupOf2 h TI (.ref i1) (.ref i2) ∧ (∃ x y, IsTupOf2 h TO x y) ∧ ItB t1 h i1 a i ∧ ItB t2 h i2 b i) where
  mem := by simp
  obj := fun i h st c hc => by
    obtain ⟨hz, hTI, ⟨x, y, hTO⟩, h1, h2⟩ := st
    have e' : c = z ∨ c = TI ∨ c = TO ∨ c = i1 ∨ c = i2 := by simpa using hc
    rcases e' with q | q | q | q | q
    · rw [q]; exact ⟨_, hz, fun v q => nomatch q⟩
    · rw [q]; exact ⟨_, hTI, fun v q => nomatch q⟩
    · rw [q]; exact ⟨_, hTO, fun v q => nomatch q⟩
    · rw [q]; exact h1.obj
    · rw [q]; exact h2.obj
  keep := fun i h h' st k => by
    obtain ⟨hz, hTI, ⟨x, y, hTO⟩, h1, h2⟩ := st
    exact ⟨k z (by simp) _ hz, k TI (by simp) _ hTI, ⟨x, y, k TO (by simp) _ hTO⟩, h1.at fun o q => k i1 (by simp) o q, h2.at fun o q => k i2 (by simp) o q⟩
  item := by
    intro X hP hw hK hc i pins s σ H E I hf st hg
    subst hP hw hK
    obtain ⟨hz, hTI, ⟨x0, y0, hTO⟩, h1, h2⟩ := st
    obtain ⟨xs, ys, x, y, hqx, hqy, hx, hy⟩ := hg
    obtain ⟨its, rv, p, _⟩ := invB I hqx
    obtain ⟨its2, rv2, p2, _⟩ := invB I hqy
    obtain ⟨u, hu, ru⟩ := rv.get hx
    obtain ⟨u2, hu2, ru2⟩ := rv2.get hy
    have hzl : z < s.heap.objs.size := Heap.lt_size hz
    have hh := I.ok.hd hc
    have z1 : z ≠ i1 := D.zi1
    have z2 : z ≠ i2 := D.zi2
    refine wpAny_pyNext_zipD2_item D (drawsB t1 (by exact hh) i1 a ne1 its.toArray) (drawsB t2 (by exact hh) i2 b ne2 its2.toArray) hz hTI hTO ⟨h1, p⟩ ⟨h2, p2⟩ (by simpa using (List.getElem?_eq_some_iff.mp hu).1) (by simpa using (List.getElem?_eq_some_iff.mp hu2).1) fun x1 x2 h' tk y1 y2 z' TO' h1' h2' hT hsz hk => ?_
    have e1 : x1 = u := by simp at y1; rw [hu] at y1; exact (Option.some.inj y1).symm
    have e2 : x2 = u2 := by simp at y2; rw [hu2] at y2; exact (Option.some.inj y2).symm
    subst e1; subst e2
    refine ⟨_, rfl, wpAny_letOwnedTupleGo_zip (s := { s with heap := h', toks := tk }) z' fun h'' z'' sb => ?_⟩
    have hT2 : h''.get? s.heap.objs.size = some { cls := .type "tuple", data := .seq #[x1, x2] } := (sb.2 _ (Nat.ne_of_gt hzl)).trans hT
    have new : ObjOk X.prog X.w (upd H s.heap.objs.size (.tup [x, y])) h'' s.heap.objs.size (.tup [x, y]) :=
      ⟨by show 2 ≤ sizeLine; decide, [x1, x2], .cons ru (.cons ru2 .nil), ⟨_, hT2, rfl, _, rfl⟩⟩
    have I1 : Inv X pins σ (upd H s.heap.objs.size (.tup [x, y])) { s with heap := h'', toks := tk } :=
      I.turnedNew (t' := tk) (ch := [z, TI, TO, i1, i2]) (fun c o hb q => (sb.2 c (fun q' => hb (by simp [q']))).trans (hk c o (fun q' => hb (by simp [q'])) (fun q' => hb (by simp [q'])) (fun q' => hb (by simp [q'])) (fun q' => hb (by simp [q'])) q)) hf (Nat.le_refl _) new
    refine ⟨.ref s.heap.objs.size, _, I1, rfl, ⟨_, x, y, rfl, I.hok.fresh (Nat.le_refl _), rfl, fun l hl => by rw [injB I hl hqx]; exact hx, fun l hl => by rw [injB I hl hqy]; exact hy⟩, ⟨z'', ?_, ⟨x1, x2, ?_⟩, ?_, ?_⟩, fun c hcm => ?_⟩
    · exact (sb.2 _ D.TIz).trans (hk _ _ D.TIz D.TITO D.TIi1 D.TIi2 hTI)
    · exact (sb.2 _ D.TOz).trans TO'
    · exact h1'.1.at fun o q => (sb.2 _ (Ne.symm z1)).trans q
    · exact h2'.1.at fun o q => (sb.2 _ (Ne.symm z2)).trans q
    · have hlt : c < s.heap.objs.size := by
        have e' : c = z ∨ c = TI ∨ c = TO ∨ c = i1 ∨ c = i2 := by simpa using hcm
        rcases e' with q | q | q | q | q
        · rw [q]; exact hzl
        · rw [q]; exact Heap.lt_size hTI
        · rw [q]; exact Heap.lt_size hTO
        · rw [q]; obtain ⟨_, e1, _⟩ := h1.obj; exact Heap.lt_size e1
        · rw [q]; obtain ⟨_, e2, _⟩ := h2.obj; exact Heap.lt_size e2
      rw [upd_ne (Nat.ne_of_lt hlt)]
      exact (hf c hcm).1
  done := by
    intro X hP hw hK hc i pins s σ H E I hf st hg
    subst hP hw hK
    obtain ⟨hz, hTI, ⟨x0, y0, hTO⟩, h1, h2⟩ := st
    obtain ⟨xs, ys, hqx, hqy, hl1, hl2, hend⟩ := hg
    obtain ⟨its, rv, p, _⟩ := invB I hqx
    obtain ⟨its2, rv2, p2, _⟩ := invB I hqy
    have l1 := rv.length
    have l2 := rv2.length
    have hh := I.ok.hd hc
    exact wpAny_pyNext_zipD2_end D (drawsB t1 (by exact hh) i1 a ne1 its.toArray) (drawsB t2 (by exact hh) i2 b ne2 its2.toArray) hz hTI hTO ⟨h1, p⟩ ⟨h2, p2⟩ (by simp; omega) (by simp; omega) (by simp; omega) fun h' tk hk => ⟨rfl, I.turnedL (t' := tk) (ch := [z, TI, TO, i1, i2]) (fun c o hb q =>
      hk c o (fun q' => hb (by simp [q'])) (fun q' => hb (by simp [q'])) (fun q' => hb (by simp [q'])) (fun q' => hb (by simp [q'])) q) hf⟩
  self := fun A i s Q E st h => wpAny_pyIter_zip st.1 h
def iZipG (t1 t2 : Bool) (K : PySem.W.Frag) (ta : TA) : TI := fun σ H R => ta σ H fun vs H1 => ∃ a b xs ys, vs = [.ref a, .ref b] ∧ SqB t1 K H1 a xs ∧ SqB t2 K H1 b ys ∧ R (ItzG t1 t2 K a b) H1
def itO (t : Bool) (a : Addr) : Obj := match t with
  | true => { cls := .type "tuple_iterator", data := .fields #[.ref a, .int 0 0] }
  | false => { cls := .type "list_iterator", data := .fields #[.ref a, .int 0 0] }
theorem beginsB (t : Bool) (a : Addr) (items : Array Value) : Begins (.ref a) (itO t a) fun h => IsB t h a items := by
  cases t with
  | true => exact begins_tuple a items
  | false => exact begins_list a items
theorem itO_at {t : Bool} {h : Heap} {a it : Addr} (e : h.get? it = some (itO t a)) : ItB t h it a 0 := by
  cases t with
  | true => exact ⟨_, e, rfl, rfl⟩
  | false => exact ⟨_, e, rfl, rfl⟩
theorem pi_zipG (t1 t2 : Bool) {X : Cx} {e e2 : Expr} {ta : TA} {p pos tpos : Pos} {elts : List Expr} {kk : Nat} (hg : Gl X "zip") (hm : X.mg "zip" = none) (ha : PA X [e, e2] ta)
    (hs : starEach [e, e2] X.env = (false, eval e X.env) :: starEach [e2] X.env := by rfl) (hpl : (backTo pos (starEach [e2] X.env)).any (·.1) = false := by rfl) :
    PI X (.Tuple elts kk tpos) (.Call (.Name "zip" p) [e, e2] [] pos) (iZipG t1 t2 X.K ta) := by
  refine ⟨fun pins s σ H R I h => ?_⟩
  refine PyProof.Rows.Call_ (ld_blt I hg hm PyProof.Rows.boot_zip (PyProof.Rows.callWith_type1 (thn (ha.run pos pins s σ H _ I h) fun us s1 ⟨vs, H1, I1, r1, q1⟩ => ?_) hs hpl))
  obtain ⟨a, b, xs, ys, ex, hqx, hqy, q⟩ := q1
  subst ex
  cases r1 with
  | cons r rr =>
    cases rr with
    | cons r' rr =>
      cases rr
      cases r
      cases r'
      obtain ⟨its, rv, p1, la⟩ := invB I1 hqx
      obtain ⟨its2, rv2, p2, lb⟩ := invB I1 hqy
      refine zip_begins2 (beginsB t1 a its.toArray) (beginsB t2 b its2.toArray) p1 p2 fun h' hz hTI hTO h1 h2 hsz hk => wpAny_pyIter_zip hz ?_
      have I2 : Inv X pins σ H1 { s1 with heap := h' } := I1.kept (t' := s1.toks) hk
      have sep : ZipSep2 (s1.heap.objs.size + 4) (s1.heap.objs.size + 2) (s1.heap.objs.size + 3) s1.heap.objs.size (s1.heap.objs.size + 1) [s1.heap.objs.size, a] [s1.heap.objs.size + 1, b] :=
        zip_sep2 (fp1 := [a]) (fp2 := [b]) (fun c hc => by simp at hc; rw [hc]; exact la) (fun c hc => by simp at hc; rw [hc]; exact lb)
      refine ⟨s1.heap.objs.size + 4, [s1.heap.objs.size + 4, s1.heap.objs.size + 2, s1.heap.objs.size + 3, s1.heap.objs.size, s1.heap.objs.size + 1], _, _, H1, rfl, I2, turn_zipG sep (Nat.ne_of_lt la) (Nat.ne_of_lt (Nat.lt_succ_of_lt lb)), ⟨hz, hTI, ⟨_, _, hTO⟩, itO_at h1, itO_at h2⟩, fun c hcm => ?_, q⟩
      have e' : c = s1.heap.objs.size + 4 ∨ c = s1.heap.objs.size + 2 ∨ c = s1.heap.objs.size + 3 ∨ c = s1.heap.objs.size ∨ c = s1.heap.objs.size + 1 := by simpa using hcm
      have hle : s1.heap.objs.size ≤ c := by
        rcases e' with z | z | z | z | z
        · rw [z]; exact Nat.le_add_right _ _
        · rw [z]; exact Nat.le_add_right _ _
        · rw [z]; exact Nat.le_add_right _ _
        · rw [z]; exact Nat.le_refl _
        · rw [z]; exact Nat.le_add_right _ _
      exact I1.fpOk hle (I1.hok.fresh hle)

section
variable {P : Program} {w : World} {K : PySem.W.Frag} {mg : Str → Option Value} {base : Heap} {N gs ps : List Str} {Vi Li : List Nat} {k : Nat}
variable {C : Ctx} {e e2 a b c o : Expr} {es : List Expr} {st : Stmt} {sts : List Stmt} {ρ : Rho} {M : Mm} {Φ : Kn} {Ψ : AV → Mm → Prop} {x y : Str} {pos p pos' : Pos}
/-- a value, a tuple or a list that is not changed any more, as a source -/
def frz? : AV → Option (Bool × List D)
  | .d (.tup ds) => some (true, ds)
  | .d (.lst ds) => some (false, ds)
  | _ => none
theorem frz_src {S : Addr → Prop} {α : Als} {H : Hp} {v : AV} {u : V} {t : Bool} {ds : List D} (wk : C.W.K = C.X.K) (h : frz? v = some (t, ds)) (r : RepA C.W S α H v u) :
    ∃ p vs, u = .ref p ∧ Reps C.W (Av S α) H ds vs ∧ ∀ α' H', Gr0 α α' H H' → SqB t C.X.K H' p vs := by
  cases v with
  | m k => cases h
  | d x =>
    cases x with
    | tup es =>
      cases h
      obtain ⟨a, vs, e, tt, rr⟩ := (show ∃ a vs, u = .ref a ∧ TSq C.W (Av S α) H a vs ∧ Reps C.W (Av S α) H ds vs from r)
      exact ⟨a, vs, e, rr, fun α' H' g => show SqT C.X.K H' a vs from wk ▸ tt.on g⟩
    | lst es =>
      cases h
      obtain ⟨a, vs, e, tt, rr⟩ := (show ∃ a vs, u = .ref a ∧ LSq C.W (Av S α) H a vs ∧ Reps C.W (Av S α) H ds vs from r)
      exact ⟨a, vs, e, rr, fun α' H' g => show SqL C.X.K H' a vs from wk ▸ tt.on g⟩
    | _ => cases h
theorem zip_at {l1 l2 : List D} {i : Nat} {d1 d2 : D} (h1 : l1[i]? = some d1) (h2 : l2[i]? = some d2) : (l1.zip l2)[i]? = some (d1, d2) := by
  rw [List.getElem?_zip_eq_some]; exact ⟨h1, h2⟩
/-- for a, b in zip(x, y), both values -/
theorem w1_forZ (t1 t2 : Bool) {elts : List Expr} {kk ix : Nat} {tpos : Pos} {body : List Stmt} (ok : Cok C P w K mg base N gs Vi Li k) (hN : gs[ix]? = some ("zip" : Str)) (hm : mg "zip" = none) (own : PassesOwn (model C.X.prog C.X.w) C.X.A C.X.env C.X.xe)
    (h : WE C a ρ M fun v1 M1 => WE C b ρ M1 fun v2 M2 => ∃ ds es, frz? v1 = some (t1, ds) ∧ frz? v2 = some (t2, es) ∧ ∃ Iv : Nat → Rho → Mm → Prop, Iv 0 ρ M2 ∧
      (∀ (i : Nat) d e ρ' M', i < min ds.length es.length → ds[i]? = some d → es[i]? = some e → Iv i ρ' M' → WG C (.Tuple elts kk tpos) (.d (.tup [d, e])) ρ' M' fun ρ2 M3 => WS (C.at M2.length) body ρ2 M3 (Φ.out C.n0 (Iv (i + 1)))) ∧ ∀ ρ' M', Iv (min ds.length es.length) ρ' M' → Φ.nx ρ' M')
    (hs : starEach [a, b] C.X.env = (false, eval a C.X.env) :: starEach [b] C.X.env := by rfl) (hs2 : starEach [b] C.X.env = (false, eval b C.X.env) :: starEach [] C.X.env := by rfl) (hpl : (backTo pos' (starEach [b] C.X.env)).any (·.1) = false := by rfl)
    (hf : ∀ x, foldedSetIterable (.Call (.Name "zip" p) [a, b] [] pos') C.X.env x = pure x := by intro _; rfl) :
    W1 C (.For (.Tuple elts kk tpos) (.Call (.Name "zip" p) [a, b] [] pos') body [] pos) ρ M Φ := by
  refine ⟨fun S α0 H0 α σ H D bs g ev f => uS_of (ps_for own ok.calm (pi_zipG t1 t2 (ok.gl ix _ hN) (by rw [ok.mgE]; exact hm) (pa_cons pe_u (pa_cons pe_u pa_nil hs2) hs) hs hpl) pg_u pss_u hf) ?_⟩
  refine h.run S α0 H0 α σ H _ bs g ev fun v1 M1 β u1 H1 p1 em1 g1 r1 => ?_
  refine p1.run S α0 H0 (α ++ β) σ H1 _ bs (g.trans g1) (ev.up g1 em1) fun v2 M2 β2 u2 H2 p2 em2 g2 r2 => ?_
  obtain ⟨ds, es, f1, f2, Iv, h0, h1, h2⟩ := p2
  obtain ⟨q1, vs1, e1, rr1, k1⟩ := frz_src ok.wk f1 (r1.up g2)
  obtain ⟨q2, vs2, e2, rr2, k2⟩ := frz_src ok.wk f2 r2
  have l1 := reps_len rr1
  have l2 := reps_len rr2
  refine ⟨q1, q2, vs1, vs2, by rw [e1, e2], k1 _ _ Gr0.refl, k2 _ _ Gr0.refl, ?_⟩
  refine for_core bs ((g.trans g1).trans g2) ((ev.up g1 em1).up g2 em2) f (G := fun _ H' => SqB t1 C.X.K H' q1 vs1 ∧ SqB t2 C.X.K H' q2 vs2) (n := min ds.length es.length) (ds := fun i => ((ds.zip es)[i]?).map fun p => .tup [p.1, p.2])
    ⟨fun i α' H' hi ⟨s1, s2⟩ => ⟨vs1, vs2, vs1[i]'(by omega), vs2[i]'(by omega), s1, s2, List.getElem?_eq_getElem _, List.getElem?_eq_getElem _⟩, fun α' H' ⟨s1, s2⟩ => ⟨vs1, vs2, s1, s2, by omega, by omega, by omega⟩, fun i α' H' x H'' M' hi ⟨s1, s2⟩ gg em y => ?_⟩ Iv h0
    (fun i ρ' M' α' σ' H' _ _ _ gg => ⟨k1 _ _ gg, k2 _ _ gg⟩) (fun i d ρ' M' hi e hI => ?_) h2
  · obtain ⟨T, x1, x2, ex, hT, eH, y1, y2⟩ := (show ∃ T x1 x2, x = .ref T ∧ H' T = none ∧ H'' = upd H' T (.tup [x1, x2]) ∧ (∀ xs, SqB t1 C.X.K H' q1 xs → xs[i]? = some x1) ∧ ∀ ys, SqB t2 C.X.K H' q2 ys → ys[i]? = some x2 from y)
    obtain ⟨d1, z1, z2⟩ := reps_get' rr1 (y1 vs1 s1)
    obtain ⟨d2, z3, z4⟩ := reps_get' rr2 (y2 vs2 s2)
    obtain ⟨γ, eγ, gγ⟩ := gg
    subst eγ
    subst eH
    refine ⟨same_new hT, .tup [d1, d2], by simp [zip_at z1 z3], ?_⟩
    refine ⟨T, [x1, x2], ex, TSq.of (em.off hT) upd_same, ?_⟩
    exact reps_same (same_new hT) (reps_cons (z2.up gγ) (reps_cons (z4.up gγ) reps_nil))
  · have e1' : ds[i]? = some (ds[i]'(by omega)) := List.getElem?_eq_getElem _
    have e2' : es[i]? = some (es[i]'(by omega)) := List.getElem?_eq_getElem _
    simp [zip_at e1' e2'] at e
    subst e
    exact h1 i _ _ ρ' M' hi e1' e2' hI
end
end Dl

/-! DL8: attributes, instances made, isinstance, own ==, dicts, try. -/
namespace Dl
open PySem L2

/-- what is known of class c of the text -/
structure ClsF (K : PySem.W.Frag) (W : Wd) (c : Nat) : Prop where
  cls : Cls K (W.ca c)
  na : ∀ (i : Nat) f, (W.cf c)[i]? = some f → NoAttr K (W.ca c) f
  nd : (W.cf c).Nodup
theorem lookup_zip : ∀ {fs : List Str} {vs : List V} {i : Nat} {f : Str} {v : V}, fs.Nodup → fs[i]? = some f → vs[i]? = some v → (fs.zip vs).lookup f = some v
  | [], _, _, _, _, _, h, _ => by simp at h
  | _ :: _, [], _, _, _, _, _, h => by simp at h
  | g :: fs, u :: vs, 0, f, v, nd, h1, h2 => by
    simp at h1 h2; subst h1; subst h2
    simp [List.lookup]
  | g :: fs, u :: vs, i + 1, f, v, nd, h1, h2 => by
    have n := List.nodup_cons.mp nd
    have h1' : fs[i]? = some f := by simpa using h1
    have ne : (f == g) = false := by
      rw [beq_eq_false_iff_ne]
      rintro rfl
      exact n.1 (List.mem_of_getElem? h1')
    rw [List.zip_cons_cons, List.lookup_cons, ne]
    exact lookup_zip n.2 h1' (by simpa using h2)
/-- the next attribute, or one that is there -/
def putA (ds : List D) (i : Nat) (d : D) : List D := if i < ds.length then ds.set i d else ds ++ [d]
theorem putF_zip : ∀ {fs : List Str} {vs : List V} {i : Nat} {f : Str} {v : V}, fs.Nodup → fs[i]? = some f → i ≤ vs.length → putF f v (fs.zip vs) = fs.zip (if i < vs.length then vs.set i v else vs ++ [v]) ∨ vs.length > fs.length
  | [], _, _, _, _, _, h, _ => by simp at h
  | g :: fs, [], i, f, v, nd, h1, h2 => by
    have : i = 0 := by simpa using h2
    subst this
    simp at h1; subst h1
    left
    simp [putF]
  | g :: fs, u :: vs, 0, f, v, nd, h1, h2 => by
    simp at h1; subst h1
    left
    simp [putF]
  | g :: fs, u :: vs, i + 1, f, v, nd, h1, h2 => by
    have n := List.nodup_cons.mp nd
    have h1' : fs[i]? = some f := by simpa using h1
    have ne : ¬ g = f := by
      rintro rfl
      exact n.1 (List.mem_of_getElem? h1')
    rcases putF_zip (v := v) n.2 h1' (by simpa using h2) with e | e
    · left
      rw [List.zip_cons_cons]
      show (if g = f then (g, v) :: fs.zip vs else (g, u) :: putF f v (fs.zip vs)) = _
      rw [if_neg ne, e]
      by_cases hl : i < vs.length
      · rw [if_pos hl, if_pos (by simpa using hl)]; simp
      · rw [if_neg hl, if_neg (by simpa using hl)]; simp
    · right; simpa using e
theorem reps_putA {W : Wd} {S : Addr → Prop} {H : Hp} {ds : List D} {vs : List V} {d : D} {v : V} (i : Nat) (r : Reps W S H ds vs) (h : Rep W S H d v) : Reps W S H (putA ds i d) (if i < vs.length then vs.set i v else vs ++ [v]) := by
  unfold putA
  rw [reps_len r]
  by_cases hl : i < ds.length
  · rw [if_pos hl, if_pos hl]; exact reps_set i r h
  · rw [if_neg hl, if_neg hl]; exact reps_app r (reps_cons h reps_nil)

section
def uF (X : Cx) (f : Str) : V → Hp → VK → Prop := fun x H Q => ∀ pins s σ u, Inv X pins σ H s → RelV x u → wpAny (model X.prog X.w) X.A (getAttr u f true) (EP X pins σ Q) X.xe s
theorem pe_attrU {X : Cx} {e : Expr} {f : Str} {pos : Pos} {te : TE} (he : PE X e te) (hb : attributeBase e f X.env (eval e X.env) = eval e X.env) : PE X (.Attribute e f pos) (tUn (uF X f) te) := by
  refine ⟨fun pins s σ H Q I h => ?_⟩
  exact attr_of hb (thn (he.run pins s σ H _ I h) fun u s1 ⟨x, H1, I1, rx, q⟩ => q pins s1 σ u I1 rx)
structure WF (C : Ctx) (f : Str) (x : AV) (M : Mm) (Ψ : AV → Mm → Prop) : Prop where
  run : ∀ S α H (Q : VK) v, EM C.W S α M H → RepA C.W S α H x v → PostE C S α H Ψ Q → uF C.X f v H Q
variable {P : Program} {w : World} {K : PySem.W.Frag} {mg : Str → Option Value} {base : Heap} {N gs ps : List Str} {Vi Li : List Nat} {k : Nat}
variable {C : Ctx} {e e2 a b o : Expr} {es : List Expr} {st : Stmt} {sts : List Stmt} {ρ : Rho} {M : Mm} {Φ : Kn} {Ψ : AV → Mm → Prop} {x f : Str} {pos p pos' : Pos}
theorem we_attr (h : WE C e ρ M fun v M1 => WF C f v M1 Ψ) (hb : attributeBase e f C.X.env (eval e C.X.env) = eval e C.X.env := by rfl) : WE C (.Attribute e f pos) ρ M Ψ := by
  refine ⟨fun S α0 H0 α σ H Q bs g ev q => uE_of (pe_attrU pe_u hb) ?_⟩
  refine h.run S α0 H0 α σ H _ bs g ev fun v M1 β u H1 p1 em1 g1 r1 => ?_
  exact p1.run S (α ++ β) H1 Q u em1 r1 (thnE q g1)
theorem wf_ob {c : Nat} {ds : List D} {d : D} (ok : Cok C P w K mg base N gs Vi Li k) (hc : ClsF K C.W c) (i : Nat) (hi : (C.W.cf c)[i]? = some f) (hd : ds[i]? = some d) (h : Ψ (.d d) M) : WF C f (.d (.ob c ds)) M Ψ := by
  refine ⟨fun S α H Q v em r q pins s σ u I rx => ?_⟩
  obtain ⟨a, dx, vs, e, n, t, l, rr⟩ := (show ∃ a dx vs, v = .ref a ∧ ¬ Av S α a ∧ H a = some (.ins (C.W.ca c) dx ((C.W.cf c).zip vs)) ∧ vs.length = (C.W.cf c).length ∧ Reps C.W (Av S α) H ds vs from r)
  obtain ⟨y, h1, h2⟩ := reps_get rr hd
  subst e
  cases rx
  refine getattr_ok I t (ok.kE ▸ hc.cls) (ok.kE ▸ hc.na i f hi) (lookup_zip hc.nd hi h1) fun u' s' I' ru => ?_
  exact ⟨y, H, I', ru, stayE (a := .d d) em q h2 h⟩
theorem wf_m {c j : Nat} {ds : List D} {d : D} (ok : Cok C P w K mg base N gs Vi Li k) (hc : ClsF K C.W c) (i : Nat) (hi : (C.W.cf c)[i]? = some f) (hj : M[j]? = some (.o c ds)) (hd : ds[i]? = some d) (h : Ψ (.d d) M) : WF C f (.m j) M Ψ := by
  refine ⟨fun S α H Q v em r q pins s σ u I rx => ?_⟩
  obtain ⟨a, dx, vs, e, ha, t, l, rr⟩ := cell_o em hj r
  obtain ⟨y, h1, h2⟩ := reps_get rr hd
  subst e
  cases rx
  refine getattr_ok I t (ok.kE ▸ hc.cls) (ok.kE ▸ hc.na i f hi) (lookup_zip hc.nd hi h1) fun u' s' I' ru => ?_
  exact ⟨y, H, I', ru, stayE (a := .d d) em q h2 h⟩
/-- self.f = e -/
theorem w1_fld {c : Nat} (ok : Cok C P w K mg base N gs Vi Li k) (hc : ClsF K C.W c) (hfew : (C.W.cf c).length < 1000) (i : Nat) (hi : (C.W.cf c)[i]? = some f)
    (h : WE C e ρ M fun v M1 => WE C o ρ M1 fun x M2 => ∃ j ds d, x = .m j ∧ v = .d d ∧ M2[j]? = some (.o c ds) ∧ i ≤ ds.length ∧ ds.length ≤ (C.W.cf c).length ∧ Nrm ρ (M2.set j (.o c (putA ds i d))) Φ.nx)
    (hs : swapsWith e (some (.Attribute o f pos')) pos.line C.X.env = pure false := by rfl) : W1 C (.Assign [.Attribute o f pos'] e pos) ρ M Φ := by
  refine ⟨fun S α0 H0 α σ H D bs g ev ff => uS_of (ps_fld pe_u pe_u hs) ?_⟩
  refine h.run S α0 H0 α σ H _ bs g ev fun v M1 β u H1 p1 em1 g1 r1 => ?_
  refine p1.run S α0 H0 (α ++ β) σ H1 _ bs (g.trans g1) (ev.up g1 em1) fun x M2 β2 u2 H2 p2 em2 g2 r2 => ?_
  obtain ⟨j, ds, d, e1, e2, hj, hi1, hi2, p2⟩ := p2
  subst e1; subst e2
  obtain ⟨a, dx, vs, e, ha, t, l, rr⟩ := cell_o em2 hj r2
  have r1' : Rep C.W (Av S (α ++ β ++ β2)) H2 d u := r1.up g2
  have hl := reps_len rr
  refine ⟨a, C.W.ca c, dx, (C.W.cf c).zip vs, e, t, ok.kE ▸ hc.cls, ok.kE ▸ hc.na i f hi, ?_, ?_⟩
  · exact Nat.lt_of_le_of_lt (by rw [List.length_zip]; exact Nat.min_le_left _ _) hfew
  · have hil : i < (C.W.cf c).length := (List.getElem?_eq_some_iff.mp hi).1
    have ep : putF f u ((C.W.cf c).zip vs) = (C.W.cf c).zip (if i < vs.length then vs.set i u else vs ++ [u]) := by
      rcases putF_zip (vs := vs) (v := u) hc.nd hi (by omega) with z | z
      · exact z
      · omega
    rw [ep]
    obtain ⟨em', g'⟩ := em2.put (o := .ins (C.W.ca c) dx ((C.W.cf c).zip (if i < vs.length then vs.set i u else vs ++ [u]))) (m' := .o c (putA ds i d)) ha ⟨a, dx, _, rfl, upd_same, by
      split
      · simpa using l
      · simp; omega, reps_put ha (reps_putA i rr r1')⟩
    refine ff.nx ρ _ (α ++ β ++ β2 ++ []) σ _ p2.out ?_ (((g.trans g1).trans g2).trans g')
    exact ((ev.up g1 em1).up g2 em2).up g' (by rw [app_nil]; exact em')

/-! ### instances are made -/
structure Ck (P : Program) (w : World) (K : PySem.W.Frag) (mg : Str → Option Value) (base : Heap) (W : Wd) (x : Str) (c : Nat) (ps : List Str) (dsp : DSp) (k : Nat) : Prop where
  ex : ∃ f fd, FnOk P w K mg base (L2.CX P w) k f fd ps (spOf W 1 dsp) ∧ mg x = some (.ref (W.ca c)) ∧ Mk K (W.ca c) f ∧ Binds K fd ps []
theorem run_makeS {X : Cx} {CX : CXT} {k : Nat} {f C : Addr} {fd : FuncData} {ps : List Str} {sp : Sp} {E : L2.St → XK} {pins : List (Addr × Obj)} {σ : L2.St} {H : Hp} {s : Shared} {Q : VK} {us : List Value} {vs : List V} (M : Mk X.K C f) (F : FnOk X.prog X.w X.K X.mg X.base CX k f fd ps sp) (hr : Room (k + 1) X.A) (hb : Binds X.K fd ps [])
    (hx : PassesAt CX X σ (E σ)) (I : Inv X pins σ H s) (r : Vals vs us)
    (h : ∀ x dx, H x = none → H dx = none → dx ≠ x → sp (.ref x :: vs) (upd (upd H dx (.own x)) x (.ins C dx [])) (fun v H2 => v = .non ∧ Q (.ref x) H2) (E σ)) :
    wpAny (model X.prog X.w) X.A (call (.ref C) us) (EP X pins σ Q) X.xe s := by
  have hq := h (s.heap.objs.size + 1) s.heap.objs.size (I.hok.fresh (Nat.le_succ _)) (I.hok.fresh (Nat.le_refl _)) (Nat.ne_of_lt (Nat.lt_succ_self _))
  have I2 := Inv.made (C := C) I
  have r2 : Vals (V.ref (s.heap.objs.size + 1) :: vs) (Value.ref (s.heap.objs.size + 1) :: us) := .cons rfl r
  have hl : (Value.ref (s.heap.objs.size + 1) :: us).length = ps.length := by
    have e := r2.length
    rw [F.len _ _ _ _ hq] at e
    exact e.symm
  have b2 := hb { s with heap := (s.heap.push PySem.W.emptyDict).push (PySem.W.instObj C s.heap.objs.size) } (Value.ref (s.heap.objs.size + 1) :: us) I2.kIn (by rw [List.append_nil]; exact hl)
  rw [List.append_nil] at b2
  refine wpAny_call (make_map (f := f) I.kIn M.makes M.init (beq_iff_eq.mp M.fn) (codeAny_mono (F.run _ X.stack _ _ ⟨Value.ref (s.heap.objs.size + 1) :: us, []⟩ (Value.ref (s.heap.objs.size + 1) :: us) _ _ (E σ) (hr.make C us [])
    (I2.env0.make C us []) b2 r2 hq) fun r s' hq' => ?_))
  cases r with
  | error e => exact hx pins _ _ e s' I2 hq'
  | ok fl =>
    cases fl with
    | ret u =>
      obtain ⟨v, H', I3, rv, ev, q3⟩ := I2.after hq'
      subst ev
      exact ⟨rv, ⟨V.ref (s.heap.objs.size + 1), H', I3, rfl, q3⟩⟩
    | next => exact False.elim hq'
    | brk => exact False.elim hq'
    | cont => exact False.elim hq'
def tMakeS (C : Addr) (sp : Sp) (E : L2.St → XK) (t : TA) : TE := fun σ H Q => t σ H fun vs H1 => ∀ x dx, H1 x = none → H1 dx = none → dx ≠ x →
  sp (.ref x :: vs) (upd (upd H1 dx (.own x)) x (.ins C dx [])) (fun v H2 => v = .non ∧ Q (.ref x) H2) (E σ)
theorem pe_makeS {X : Cx} {CX : CXT} {k : Nat} {f C : Addr} {fd : FuncData} {ps : List Str} {sp : Sp} {E : L2.St → XK} {x : Str} {p pos : Pos} {e : Expr} {es : List Expr} {t : TA} (M : Mk X.K C f) (F : FnOk X.prog X.w X.K X.mg X.base CX k f fd ps sp) (hr : Room (k + 1) X.A) (hg : Gl X x) (hm : X.mg x = some (.ref C)) (hb : Binds X.K fd ps []) (hx : ∀ σ, PassesAt CX X σ (E σ))
    (ha : PA X (e :: es) t) (hdb : (x == ("__debug__" : Str)) = false := by decide) (he : starEach (e :: es) X.env = (false, eval e X.env) :: starEach es X.env := by rfl) (hpl : (backTo pos (starEach es X.env)).any (·.1) = false := by rfl) :
    PE X (.Call (.Name x p) (e :: es) [] pos) (tMakeS C sp E t) := by
  refine ⟨fun pins s σ H Q I h => ?_⟩
  refine wpAny_Call_Name_kw (ld_glob I hg hm ?_ hdb)
  refine PySem.W.callWith_K (h₀ := X.base) I.ok.mod.kin M.kp (thn (ha.run pos pins s σ H _ I h) fun us s1 ⟨vs, H1, I1, r, q⟩ => ⟨I1.kIn, ?_⟩) he hpl
  exact run_makeS M F hr hb (hx σ) I1 r q
/-- C(e, ..): a value from then on -/
theorem we_makeC {c : Nat} {dsp : DSp} {k' : Nat} {f : Addr} {fd : FuncData} (mk : Mk C.X.K (C.W.ca c) f) (FO : FnOk C.X.prog C.X.w C.X.K C.X.mg C.X.base (L2.CX C.X.prog C.X.w) k' f fd ps (spOf C.W 1 dsp)) (hr : Room (k' + 1) C.X.A) (gl : Gl C.X x) (hm : C.X.mg x = some (.ref (C.W.ca c))) (hb : Binds C.X.K fd ps [])
    (h : WA C (e :: es) ρ M fun as M1 => allD as fun _ => dsp (.m 0 :: as) [.o c []] (fun a M' => ∃ ds, M' = [.o c ds] ∧ a = .d .non ∧ ds.length = (C.W.cf c).length ∧ Ψ (.d (.ob c ds)) M1) (fun cl ds M' => C.T cl ds ρ M1))
    (hdb : (x == ("__debug__" : Str)) = false) (he : starEach (e :: es) C.X.env = (false, eval e C.X.env) :: starEach es C.X.env) (hpl : (backTo pos (starEach es C.X.env)).any (·.1) = false) :
    WE C (.Call (.Name x p) (e :: es) [] pos) ρ M Ψ := by
  refine ⟨fun S α0 H0 α σ H Q bs g ev q => ?_⟩
  obtain ⟨Wx, tk, ht⟩ := bs.tk
  refine uE_of (pe_makeS mk FO hr gl hm hb (passAt tk) pa_u hdb he hpl) ?_
  refine h.run S α0 H0 α σ H _ bs g ev fun as M1 β vs H1 p1 em1 g1 r1 => fun z dx hz hdx hne => ?_
  obtain ⟨es', hu, hd⟩ := unD_of_allD p1
  have s1 : Same H1 (upd (upd H1 dx (.own z)) z (.ins (C.W.ca c) dx [])) := fun b o e => by
    rw [upd_ne (ne_of_none e hz), upd_ne (ne_of_none e hdx)]; exact e
  have s1st : ∀ b, H1 b ≠ none → (upd (upd H1 dx (.own z)) z (.ins (C.W.ca c) dx [])) b ≠ none := fun b hb => by
    cases q : H1 b with
    | none => exact absurd q hb
    | some o => rw [s1 b o q]; simp
  have offz : ¬ Av S (α ++ β) z := em1.off hz
  have rr := repsA0 hu r1
  refine ⟨Av S (α ++ β), [[z]], [.o c []], .m 0 :: as, _, _, ⟨.cons ⟨z, dx, [], rfl, by rw [upd_same]; simp, Nat.zero_le _, rfl⟩ .nil, by simp, fun b hb => s1st b (em1.trA b hb)⟩, rfl, ⟨.ref z, vs, rfl, ⟨z, [], rfl, rfl⟩, ?_⟩, hd, fun a M' β2 v H' pp em' g' r' => ?_, fun cl ds M' β2 H' cls dA t em' g' xr => ?_⟩
  · -- the arguments, at the new heap
    have go : ∀ {as : List AV} {vs : List V} {ds : List D}, unD as = some ds → RepsA C.W (Av S (α ++ β)) [] H1 as vs → RepsA C.W (Av S (α ++ β)) [[z]] (upd (upd H1 dx (.own z)) z (.ins (C.W.ca c) dx [])) as vs := by
      intro as
      induction as with
      | nil => intro vs ds _ r; exact r
      | cons a as ih =>
        intro vs ds hu r
        obtain ⟨v, r2, e, h1, t⟩ := (show ∃ v r, vs = v :: r ∧ RepA C.W (Av S (α ++ β)) [] H1 a v ∧ RepsA C.W (Av S (α ++ β)) [] H1 as r from r)
        cases a with
        | m k => cases hu
        | d x =>
          have hu' : (unD as).map (x :: ·) = some ds := hu
          cases q : unD as with
          | none => rw [q] at hu'; cases hu'
          | some es =>
            refine ⟨v, r2, e, ?_, ih q t⟩
            refine Rep.tr (fun b hb => ?_) (fun b o _ e => s1 b o e) x v (show Rep C.W (Av (Av S (α ++ β)) []) H1 x v from h1)
            rcases hb with hb | ⟨l, hl, hb⟩
            · exact .inl (.inl hb)
            · simp at hl; subst hl; simp at hb; subst hb; exact .inr hz
    exact go hu rr
  · obtain ⟨ds, eM, ea, hl, hp⟩ := pp
    subst eM; subst ea
    refine ⟨r', ?_⟩
    have cr := em'.rep
    cases cr with
    | cons h1 h2 =>
      cases h2
      obtain ⟨p', dx', us, ep, hh, hlu, rr'⟩ := h1
      cases ep
      have lu := reps_len rr'
      have g2 : Gr (α ++ β) [] H1 H' := ⟨fun b o n e => g'.kp b o (fun l hl z' => by simp at hl; subst hl; simp at z'; subst z'; rw [hz] at e; cases e) (s1 b o e), fun b hb => g'.st b (s1st b hb), fun l hl => by simp at hl⟩
      have em2 : EM C.W S (α ++ β) M1 H' := by
        refine ⟨Paired.mapP em1.rep fun m l r => r.tr (fun b hb => .inl hb) (fun b o n e => ?_) fun b o hb e => ?_, em1.nd, fun b hb => g2.st b (em1.trk b hb)⟩
        · exact g'.kp b o (fun l hl z' => by simp at hl; subst hl; simp at z'; subst z'; rw [hz] at e; cases e) (s1 b o e)
        · exact g'.kp b o (fun l hl z' => by simp at hl; subst hl; simp at z'; subst z'; rw [hz] at e; cases e) (s1 b o e)
      refine (thnE q g1) _ M1 [] _ H' hp (by rw [app_nil]; exact em2) g2 ?_
      show Rep C.W (Av S (α ++ β ++ [])) H' (.ob c ds) (.ref _)
      rw [app_nil]
      exact ⟨_, dx', us, rfl, offz, hh, by omega, Reps.less (fun b z' => .inl z') rr'⟩
  · -- an exception out of __init__
    have g2 : Gr (α ++ β) [] H1 H' := ⟨fun b o n e => g'.kp b o (fun l hl z' => by simp at hl; subst hl; simp at z'; subst z'; rw [hz] at e; cases e) (s1 b o e), fun b hb => g'.st b (s1st b hb), fun l hl => by simp at hl⟩
    have em2 : EM C.W S (α ++ β) M1 H' := by
      refine ⟨Paired.mapP em1.rep fun m l r => r.tr (fun b hb => .inl hb) (fun b o n e => ?_) fun b o hb e => ?_, em1.nd, fun b hb => g2.st b (em1.trk b hb)⟩
      · exact g'.kp b o (fun l hl z' => by simp at hl; subst hl; simp at z'; subst z'; rw [hz] at e; cases e) (s1 b o e)
      · exact g'.kp b o (fun l hl z' => by simp at hl; subst hl; simp at z'; subst z'; rw [hz] at e; cases e) (s1 b o e)
    have ev2 : Ev C.W S (α ++ β) ρ M1 σ H' := by
      have z' := (ev.up g1 em1).up g2 (by rw [app_nil]; exact em2)
      rw [app_nil] at z'; exact z'
    refine ht cl ds ρ M1 _ σ H' cls dA t ev2 ((g.trans g1).join ⟨[], (app_nil _).symm, g2⟩) ?_
    obtain ⟨e1, xr⟩ := xr
    refine ⟨e1, xr.imp id ?_⟩
    rintro ⟨dd, us, e2, n, hh, hl, rr⟩
    have sub : ∀ b, Av S (α ++ β) b → Av (Av S (α ++ β)) ([[z]] ++ β2) b := fun b z' => .inl z'
    exact ⟨dd, us, e2, fun z' => n (sub _ z'), hh, hl, Reps.less (fun b z' => sub b z') rr⟩
theorem we_make {c : Nat} {dsp : DSp} {k' : Nat} (ok : Cok C P w K mg base N gs Vi Li k) (i : Nat) (hN : gs[i]? = some x) (F : Ck P w K mg base C.W x c ps dsp k') (hk : k' + 1 ≤ k)
    (h : WA C (e :: es) ρ M fun as M1 => allD as fun _ => dsp (.m 0 :: as) [.o c []] (fun a M' => ∃ ds, M' = [.o c ds] ∧ a = .d .non ∧ ds.length = (C.W.cf c).length ∧ Ψ (.d (.ob c ds)) M1) (fun cl ds M' => C.T cl ds ρ M1))
    (hdb : (x == ("__debug__" : Str)) = false := by decide) (he : starEach (e :: es) C.X.env = (false, eval e C.X.env) :: starEach es C.X.env := by rfl) (hpl : (backTo pos (starEach es C.X.env)).any (·.1) = false := by rfl) :
    WE C (.Call (.Name x p) (e :: es) [] pos) ρ M Ψ := by
  obtain ⟨f, fd, FO, hm, mk, hb⟩ := F.ex
  exact we_makeC (by rw [ok.kE]; exact mk) (by rw [ok.prog, ok.wE, ok.kE, ok.mgE, ok.baseE]; exact FO) (ok.room.mono hk) (ok.gl i x hN) (by rw [ok.mgE]; exact hm) (by rw [ok.kE]; exact hb) h hdb he hpl
end
end Dl

/-! DL9: isinstance, own ==, dicts, a try that runs through. -/
namespace Dl
open PySem L2

/-! ### isinstance -/
/-- the built-in type of a value -/
def bT (M : Mm) : AV → Option String
  | .d .non => some "NoneType"
  | .d (.bl _) => some "bool"
  | .d (.int _) => some "int"
  | .d (.str _) => some "str"
  | .d (.tup _) => some "tuple"
  | .d (.lst _) => some "list"
  | .d (.dk _ _) => some "dict"
  | .m k => match M[k]? with
    | some (.l _) => some "list"
    | some (.k _ _) => some "dict"
    | _ => none
  | _ => none
theorem tyx_lst {K : PySem.W.Frag} {H : Hp} {a : Addr} {vs : List V} (h : SqL K H a vs) : TyX K H (.ref a) (.type "list") := by
  rcases h with (h | ⟨o, h⟩) | ⟨o, its, n, h, c, _⟩
  · exact .base (.lst h)
  · exact .base (.frz h)
  · exact .kList h c
theorem tyx_tup {K : PySem.W.Frag} {H : Hp} {a : Addr} {vs : List V} (h : SqT K H a vs) : TyX K H (.ref a) (.type "tuple") := by
  rcases h with (h | ⟨o, h⟩) | ⟨o, its, n, h, c, _⟩
  · exact .base (.tup h)
  · exact .fTuple h
  · exact .kTuple h c
section
variable {C : Ctx} {M : Mm} {Ψ : AV → Mm → Prop}
theorem bT_ok (wk : C.W.K = C.X.K) {S : Addr → Prop} {α : Als} {H : Hp} (em : EM C.W S α M H) : ∀ {a : AV} {v : V} {T : String}, bT M a = some T → RepA C.W S α H a v → TyX C.X.K H v (.type T)
  | .d .non, v, T, e, r => by cases e; rw [show v = .non from r]; exact .base .non
  | .d (.bl b), v, T, e, r => by cases e; rw [show v = .bl b from r]; exact .base (.bl b)
  | .d (.int b), v, T, e, r => by cases e; rw [show v = .int b from r]; exact .base (.int b)
  | .d (.str b), v, T, e, r => by cases e; rw [show v = .str b from r]; exact .base (.str b)
  | .d (.tup es), v, T, e, r => by
    cases e
    obtain ⟨a, vs, e, t, rr⟩ := (show ∃ a vs, v = .ref a ∧ TSq C.W (Av S α) H a vs ∧ Reps C.W (Av S α) H es vs from r)
    rw [e]; exact tyx_tup (wk ▸ t.sq)
  | .d (.lst es), v, T, e, r => by
    cases e
    obtain ⟨a, vs, e, t, rr⟩ := (show ∃ a vs, v = .ref a ∧ LSq C.W (Av S α) H a vs ∧ Reps C.W (Av S α) H es vs from r)
    rw [e]; exact tyx_lst (wk ▸ t.sq)
  | .d (.dk ks es), v, T, e, r => by
    cases e
    obtain ⟨a, vs, e, n, t, rr⟩ := (show ∃ a vs, v = .ref a ∧ ¬ Av S α a ∧ H a = some (.dK (ks.zip vs)) ∧ vs.length = ks.length ∧ Reps C.W (Av S α) H es vs from r)
    rw [e]; exact .base (.dK t)
  | .m k, v, T, e, r => by
    cases q : M[k]? with
    | none => simp [bT, q] at e
    | some m =>
      cases m with
      | l ds =>
        simp [bT, q] at e; subst e
        obtain ⟨p, vs, e, ha, hh, rr⟩ := cell_l em q r
        rw [e]; exact .base (.lst hh)
      | k ks ds =>
        simp [bT, q] at e; subst e
        obtain ⟨p, vs, e, ha, hh, hz, rr⟩ := cell_k em q r
        rw [e]; exact .base (.dK hh)
      | o _ _ => simp [bT, q] at e
      | dead => simp [bT, q] at e
  | .d (.fn _), v, T, e, r => by cases e
  | .d (.ty _), v, T, e, r => by cases e
  | .d (.ob _ _), v, T, e, r => by cases e
/-- what isinstance asks of class c of the text -/
structure IsF (K : PySem.W.Frag) (W : Wd) (c : Nat) : Prop where
  cl : Cls K (W.ca c)
  ha : PySem.W.findIn K (.ref (W.ca c)) "__class__" = some (some (.builtin "object.__class__"))
  hn : PySem.W.specialIn K (.builtin "object.__class__") "__get__" = some (some (.builtin "getset_descriptor.__get__"))
  htk : PySem.W.takesIn K (.builtin "object.__class__") = some true
  hm : PySem.W.mroIn K (W.ca c) (.type "object") = some true
theorem tyx_ob (wk : C.W.K = C.X.K) {c : Nat} (F : IsF C.X.K C.W c) {S : Addr → Prop} {α : Als} {H : Hp} {ds : List D} {v : V} (r : RepA C.W S α H (.d (.ob c ds)) v) : TyX C.X.K H v (.ref (C.W.ca c)) := by
  obtain ⟨a, dx, vs, e, n, t, l, rr⟩ := (show ∃ a dx vs, v = .ref a ∧ ¬ Av S α a ∧ H a = some (.ins (C.W.ca c) dx ((C.W.cf c).zip vs)) ∧ vs.length = (C.W.cf c).length ∧ Reps C.W (Av S α) H ds vs from r)
  rw [e]; exact .base (.ins t F.cl F.ha F.hn F.htk F.hm)
/-- isinstance(x, T): both built-in; T a class of the text; x an instance -/
theorem wc_isi_bb (wk : C.W.K = C.X.K) {a : AV} {T n : String} {b : Bool} (ht : bT M a = some n) (hk : kitB n T = some b) (h : Ψ (.d (.bl b)) M) : WC C (.builtin "isinstance") [a, .d (.ty T)] M Ψ :=
  ⟨fun S α H Q vs em r q => by
    obtain ⟨v, u, e, h1, h2⟩ := reps2 r
    refine uC_of call_isi ⟨v, .ty T, .type n, .type T, b, by rw [e, show u = .ty T from h2], .ty T, bT_ok wk em ht h1, kit_ty hk, stayE (a := .d (.bl b)) (v := .bl b) em q rfl h⟩⟩
theorem wc_isi_bc (wk : C.W.K = C.X.K) {a : AV} {n : String} {D : Addr} {b : Bool} (ht : bT M a = some n) (hk : PySem.W.kitOne C.X.K (.type n) (.ref D) = some b) (h : Ψ (.d (.bl b)) M) : WC C (.builtin "isinstance") [a, .d (.fn D)] M Ψ :=
  ⟨fun S α H Q vs em r q => by
    obtain ⟨v, u, e, h1, h2⟩ := reps2 r
    refine uC_of call_isi ⟨v, .ref D, .type n, .ref D, b, by rw [e, show u = .ref D from h2], .own D, bT_ok wk em ht h1, hk, stayE (a := .d (.bl b)) (v := .bl b) em q rfl h⟩⟩
theorem wc_isi_cb (wk : C.W.K = C.X.K) {c : Nat} (F : IsF C.X.K C.W c) {ds : List D} {T : String} {b : Bool} (hk : PySem.W.kitOne C.X.K (.ref (C.W.ca c)) (.type T) = some b) (h : Ψ (.d (.bl b)) M) : WC C (.builtin "isinstance") [.d (.ob c ds), .d (.ty T)] M Ψ :=
  ⟨fun S α H Q vs em r q => by
    obtain ⟨v, u, e, h1, h2⟩ := reps2 r
    refine uC_of call_isi ⟨v, .ty T, .ref (C.W.ca c), .type T, b, by rw [e, show u = .ty T from h2], .ty T, tyx_ob wk F h1, hk, stayE (a := .d (.bl b)) (v := .bl b) em q rfl h⟩⟩
theorem wc_isi_cc (wk : C.W.K = C.X.K) {c : Nat} (F : IsF C.X.K C.W c) {ds : List D} {D : Addr} {b : Bool} (hk : PySem.W.kitOne C.X.K (.ref (C.W.ca c)) (.ref D) = some b) (h : Ψ (.d (.bl b)) M) : WC C (.builtin "isinstance") [.d (.ob c ds), .d (.fn D)] M Ψ :=
  ⟨fun S α H Q vs em r q => by
    obtain ⟨v, u, e, h1, h2⟩ := reps2 r
    refine uC_of call_isi ⟨v, .ref D, .ref (C.W.ca c), .ref D, b, by rw [e, show u = .ref D from h2], .own D, tyx_ob wk F h1, hk, stayE (a := .d (.bl b)) (v := .bl b) em q rfl h⟩⟩

/-! ### x == y by the class's own __eq__ (which raises nothing) -/
structure Eqk (P : Program) (w : World) (K : PySem.W.Frag) (mg : Str → Option Value) (base : Heap) (W : Wd) (c : Nat) (ps : List Str) (dsp : DSp) (k : Nat) : Prop where
  ex : ∃ f fd, FnOk P w K mg base (L2.CX P w) k f fd ps (spOf W 0 dsp) ∧ PySem.W.findIn K (.ref (W.ca c)) "__eq__" = some (some (.ref f)) ∧ PySem.W.isFn K (.ref f) = true ∧ Binds K fd ps []
theorem op_eqO {X : Cx} {n : Nat} {f : Addr} {Ca : Addr} {fd : FuncData} {ps : List Str} {sp : Sp} (F : FnOk X.prog X.w X.K X.mg X.base (L2.CX X.prog X.w) n f fd ps sp) (hr : Room n X.A)
    (hs : PySem.W.findIn X.K (.ref Ca) "__eq__" = some (some (.ref f))) (hf : PySem.W.isFn X.K (.ref f) = true) (hb : Binds X.K fd ps []) :
    OpR X (compareOp .Eq) (fun x y H Q => ∃ a b dx dy fs gs, x = .ref a ∧ y = .ref b ∧ H a = some (.ins Ca dx fs) ∧ H b = some (.ins Ca dy gs) ∧ sp [.ref a, .ref b] H (fun v H' => ∃ t, v = .bl t ∧ Q (.bl t) H') fun _ _ _ => False) := by
  intro pins s σ H x y u v Q I rx ry d
  obtain ⟨a, b, dx, dy, fs, gs, rfl, rfl, ha, hb', hsp⟩ := d
  cases rx
  cases ry
  show wpAny (model X.prog X.w) X.A (richCompare .Eq (.ref a) (.ref b)) (EP X pins σ Q) X.xe s
  obtain ⟨mA, J, _⟩ := ins_get I.hok ha
  obtain ⟨mB, J', _⟩ := ins_get I.hok hb'
  obtain ⟨od, J, _⟩ := J.look
  obtain ⟨od', J', _⟩ := J'.look
  obtain ⟨m, hF⟩ := I.fr
  refine PySem.W.cmp_K (op := .Eq) (tb := .ref Ca) hr.units0 hF I.ok.mod.kin J J'.type (by simp [PySem.W.notFirst]) hs hf ?_
  have hl := F.len _ _ _ _ hsp
  have r2 : Vals [V.ref a, V.ref b] [Value.ref a, Value.ref b] := .cons rfl (.cons rfl .nil)
  refine wpAny_call (codeAny_mono (F.run X.A X.stack s H ⟨[.ref a, .ref b], []⟩ [.ref a, .ref b] [.ref a, .ref b] _ _ hr I.env0 (by
    have := hb s [.ref a, .ref b] I.kIn (by simpa using hl)
    simpa using this) r2 hsp) fun r s' hq => ?_)
  cases r with
  | error e =>
    obtain ⟨_, _, _, _, _, _, _, _, _, _, _, _, z⟩ := hq
    exact z.elim
  | ok fl =>
    cases fl with
    | ret w =>
      obtain ⟨z, H', I', rz, t, ez, q⟩ := I.after hq
      subst ez
      cases rz
      exact ⟨.bl t, H', I', rfl, q⟩
    | next => exact False.elim hq
    | brk => exact False.elim hq
    | cont => exact False.elim hq
variable {P : Program} {w : World} {K : PySem.W.Frag} {mg : Str → Option Value} {base : Heap} {N gs ps : List Str} {Vi Li : List Nat} {k : Nat}
theorem wo_eqO {c k' : Nat} {dsp : DSp} {ds es : List D} (ok : Cok C P w K mg base N gs Vi Li k) (F : Eqk P w K mg base C.W c ps dsp k') (hk : k' ≤ k)
    (h : dsp [.d (.ob c ds), .d (.ob c es)] [] (fun a M' => M' = [] ∧ isB a fun t => Ψ (.d (.bl t)) M) (fun _ _ _ => False)) : WO C (compareOp .Eq) (.d (.ob c ds)) (.d (.ob c es)) M Ψ := by
  obtain ⟨f, fd, FO, hs, hf, hb⟩ := F.ex
  refine ⟨fun S α H Q v u em r1 r2 q => ?_⟩
  have FO' : FnOk C.X.prog C.X.w C.X.K C.X.mg C.X.base (L2.CX C.X.prog C.X.w) k' f fd ps (spOf C.W 0 dsp) := by rw [ok.prog, ok.wE, ok.kE, ok.mgE, ok.baseE]; exact FO
  obtain ⟨a, dx, vs, e1, n1, t1, l1, rr1⟩ := (show ∃ a dx vs, v = .ref a ∧ ¬ Av S α a ∧ H a = some (.ins (C.W.ca c) dx ((C.W.cf c).zip vs)) ∧ vs.length = (C.W.cf c).length ∧ Reps C.W (Av S α) H ds vs from r1)
  obtain ⟨b, dy, us, e2, n2, t2, l2, rr2⟩ := (show ∃ a dx vs, u = .ref a ∧ ¬ Av S α a ∧ H a = some (.ins (C.W.ca c) dx ((C.W.cf c).zip vs)) ∧ vs.length = (C.W.cf c).length ∧ Reps C.W (Av S α) H es vs from r2)
  refine uO_of (op_eqO FO' (ok.room.mono hk) (by rw [ok.kE]; exact hs) (by rw [ok.kE]; exact hf) (by rw [ok.kE]; exact hb)) ⟨a, b, dx, dy, _, _, e1, e2, t1, t2, ?_⟩
  have ra : RepsA C.W S α H [.d (.ob c ds), .d (.ob c es)] [.ref a, .ref b] := ⟨_, _, rfl, (by rw [e1] at r1; exact r1), _, _, rfl, (by rw [e2] at r2; exact r2), rfl⟩
  refine ⟨Av S α, [], [], _, _, _, ⟨.nil, by simp, em.trA⟩, rfl, repsA0 (ds := [.ob c ds, .ob c es]) rfl ra, h, fun x M' β v' H' pp em' g' r' => ?_, fun _ _ _ _ _ _ _ z _ _ _ => z.elim⟩
  obtain ⟨eM, pb⟩ := pp
  subst eM
  obtain ⟨t, et, hh⟩ := isB_of pb r'
  obtain ⟨h1, h2, _⟩ := back0 em em' g' r'
  refine ⟨t, et, q (.d (.bl t)) M β (.bl t) H' hh (by simpa using h1) h2 rfl⟩

/-! ### dicts of ints and texts -/
def keyOf : AV → Option Key
  | .d (.int i) => some (.inl i)
  | .d (.str x) => some (.inr x)
  | _ => none
theorem keyOf_ok {W : Wd} {S : Addr → Prop} {α : Als} {H : Hp} : ∀ {a : AV} {v : V} {ky : Key}, keyOf a = some ky → RepA W S α H a v → v = kV ky
  | .d (.int i), v, ky, e, r => by cases e; exact r
  | .d (.str i), v, ky, e, r => by cases e; exact r
  | .m _, v, ky, e, r => by cases e
  | .d .non, v, ky, e, r => by cases e
  | .d (.bl _), v, ky, e, r => by cases e
  | .d (.tup _), v, ky, e, r => by cases e
  | .d (.lst _), v, ky, e, r => by cases e
  | .d (.ob _ _), v, ky, e, r => by cases e
  | .d (.dk _ _), v, ky, e, r => by cases e
  | .d (.fn _), v, ky, e, r => by cases e
  | .d (.ty _), v, ky, e, r => by cases e
/-- what the keys ks hold at ky, the values ds -/
def kget (ks : List Key) (ds : List D) (ky : Key) : Option D := ((ks.zip ds).find? fun p => decide (p.1 = ky)).map (·.2)
def hasK (ks : List Key) (ky : Key) : Bool := ks.any fun k => decide (k = ky)
def kputK (ks : List Key) (ky : Key) : List Key := if hasK ks ky = true then ks else ks ++ [ky]
def kputV {α : Type} (ks : List Key) (vs : List α) (ky : Key) (v : α) : List α := if hasK ks ky = true then List.zipWith (fun k x => if k = ky then v else x) ks vs else vs ++ [v]
theorem valV_reps {W : Wd} {S : Addr → Prop} {H : Hp} {ky : Key} : ∀ {ks : List Key} {ds : List D} {vs : List V}, vs.length = ks.length → Reps W S H ds vs → match kget ks ds ky with
    | some d => ∃ v, valV (ks.zip vs) ky = some v ∧ Rep W S H d v
    | none => valV (ks.zip vs) ky = none
  | [], ds, vs, hl, r => by simp [kget, valV]
  | k :: ks, [], vs, hl, r => by rw [show vs = [] from r] at hl; simp at hl
  | k :: ks, d :: ds, vs, hl, r => by
    obtain ⟨v, r2, e, h1, t⟩ := (show ∃ v r, vs = v :: r ∧ Rep W S H d v ∧ Reps W S H ds r from r)
    subst e
    have ih := valV_reps (ky := ky) (ks := ks) (by simpa using hl) t
    by_cases hk : k = ky
    · have e1 : kget (k :: ks) (d :: ds) ky = some d := by simp [kget, hk]
      rw [e1]
      exact ⟨v, valV_pos (p := (k, v)) hk, h1⟩
    · have e1 : kget (k :: ks) (d :: ds) ky = kget ks ds ky := by simp [kget, hk]
      rw [e1, List.zip_cons_cons, valV_neg (p := (k, v)) hk]
      exact ih
theorem op_inD {X : Cx} (hu : X.A.units + 1 < cLine) : OpR X (compareOp .In) (fun x y H Q => ∃ a o, y = .ref a ∧ DGet H a x o ∧ Q (.bl o.isSome) H) := by
  intro pins s σ H x y v u Q I rx ry h
  obtain ⟨a, o, rfl, g, q⟩ := h
  cases ry
  exact d_in hu I g rx fun s' I' => ⟨.bl o.isSome, H, I', rfl, q⟩
theorem op_notinD {X : Cx} (hu : X.A.units + 1 < cLine) : OpR X (compareOp .NotIn) (fun x y H Q => ∃ a o, y = .ref a ∧ DGet H a x o ∧ Q (.bl (!o.isSome)) H) := by
  intro pins s σ H x y v u Q I rx ry h
  obtain ⟨a, o, rfl, g, q⟩ := h
  cases ry
  exact d_notIn hu I g rx fun s' I' => ⟨.bl (!o.isSome), H, I', rfl, q⟩
/-- a dict, of the store or frozen -/
def dictOf (M : Mm) : AV → Option (List Key × List D)
  | .d (.dk ks ds) => some (ks, ds)
  | .m k => match M[k]? with
    | some (.k ks ds) => some (ks, ds)
    | _ => none
  | _ => none
theorem dict_rep {S : Addr → Prop} {α : Als} {H : Hp} (em : EM C.W S α M H) : ∀ {a : AV} {v : V} {ks : List Key} {ds : List D}, dictOf M a = some (ks, ds) → RepA C.W S α H a v → ∃ p vs, v = .ref p ∧ H p = some (.dK (ks.zip vs)) ∧ vs.length = ks.length ∧ Reps C.W (Av S α) H ds vs
  | .d (.dk ks' es), v, ks, ds, e, r => by
    obtain ⟨a, vs, e1, n, t, l, rr⟩ := (show ∃ a vs, v = .ref a ∧ ¬ Av S α a ∧ H a = some (.dK (ks'.zip vs)) ∧ vs.length = ks'.length ∧ Reps C.W (Av S α) H es vs from r)
    cases e
    exact ⟨a, vs, e1, t, l, rr⟩
  | .m k, v, ks, ds, e, r => by
    cases q : M[k]? with
    | none => simp [dictOf, q] at e
    | some m =>
      cases m with
      | k ks' es =>
        simp [dictOf, q] at e
        obtain ⟨rfl, rfl⟩ := e
        obtain ⟨p, vs, e, ha, hh, hz, rr⟩ := cell_k em q r
        exact ⟨p, vs, e, hh, hz, rr⟩
      | l _ => simp [dictOf, q] at e
      | o _ _ => simp [dictOf, q] at e
      | dead => simp [dictOf, q] at e
  | .d .non, v, _, _, e, r => by cases e
  | .d (.bl _), v, _, _, e, r => by cases e
  | .d (.int _), v, _, _, e, r => by cases e
  | .d (.str _), v, _, _, e, r => by cases e
  | .d (.fn _), v, _, _, e, r => by cases e
  | .d (.ty _), v, _, _, e, r => by cases e
  | .d (.ob _ _), v, _, _, e, r => by cases e
  | .d (.tup _), v, _, _, e, r => by cases e
  | .d (.lst _), v, _, _, e, r => by cases e
theorem dget_of {S : Addr → Prop} {α : Als} {H : Hp} {p : Addr} {ks : List Key} {ds : List D} {vs : List V} {ky : Key} (hh : H p = some (.dK (ks.zip vs))) (hl : vs.length = ks.length) (rr : Reps C.W (Av S α) H ds vs) :
    match kget ks ds ky with
    | some d => ∃ v, DGet H p (kV ky) (some v) ∧ Rep C.W (Av S α) H d v
    | none => DGet H p (kV ky) none := by
  have z := valV_reps (ky := ky) hl rr
  have g := DGet.k (k := ky) hh
  cases q : kget ks ds ky with
  | some d => rw [q] at z; obtain ⟨v, h1, h2⟩ := z; rw [h1] at g; exact ⟨v, g, h2⟩
  | none => rw [q] at z; have z' : valV (ks.zip vs) ky = none := z; rw [z'] at g; exact g
theorem Cok.hu (ok : Cok C P w K mg base N gs Vi Li k) : C.X.A.units + 1 < cLine := hu_of ok.room
theorem wo_inD (ok : Cok C P w K mg base N gs Vi Li k) {x y : AV} {ks : List Key} {ds : List D} {ky : Key} (hx : keyOf x = some ky) (hy : dictOf M y = some (ks, ds)) (h : Ψ (.d (.bl (kget ks ds ky).isSome)) M) : WO C (compareOp .In) x y M Ψ := by
  refine ⟨fun S α H Q v u em r1 r2 q => ?_⟩
  obtain ⟨p, vs, e, hh, hl, rr⟩ := dict_rep em hy r2
  have z := dget_of (ky := ky) hh hl rr
  have ek := keyOf_ok hx r1
  refine uO_of (op_inD ok.hu) ?_
  rw [e, ek]
  cases qq : kget ks ds ky with
  | some d =>
    rw [qq] at z h
    obtain ⟨v', g, _⟩ := z
    exact ⟨p, some v', rfl, g, stayE (a := .d (.bl true)) (v := .bl true) em q rfl h⟩
  | none =>
    rw [qq] at z h
    exact ⟨p, none, rfl, z, stayE (a := .d (.bl false)) (v := .bl false) em q rfl h⟩
theorem wo_notinD (ok : Cok C P w K mg base N gs Vi Li k) {x y : AV} {ks : List Key} {ds : List D} {ky : Key} (hx : keyOf x = some ky) (hy : dictOf M y = some (ks, ds)) (h : Ψ (.d (.bl (!(kget ks ds ky).isSome))) M) : WO C (compareOp .NotIn) x y M Ψ := by
  refine ⟨fun S α H Q v u em r1 r2 q => ?_⟩
  obtain ⟨p, vs, e, hh, hl, rr⟩ := dict_rep em hy r2
  have z := dget_of (ky := ky) hh hl rr
  have ek := keyOf_ok hx r1
  refine uO_of (op_notinD ok.hu) ?_
  rw [e, ek]
  cases qq : kget ks ds ky with
  | some d =>
    rw [qq] at z h
    obtain ⟨v', g, _⟩ := z
    exact ⟨p, some v', rfl, g, stayE (a := .d (.bl false)) (v := .bl false) em q rfl h⟩
  | none =>
    rw [qq] at z h
    exact ⟨p, none, rfl, z, stayE (a := .d (.bl true)) (v := .bl true) em q rfl h⟩
/-- d[y] -/
theorem wi_dict (ok : Cok C P w K mg base N gs Vi Li k) {x y : AV} {ks : List Key} {ds : List D} {ky : Key} {d : D} (hx : dictOf M x = some (ks, ds)) (hy : keyOf y = some ky) (hd : kget ks ds ky = some d) (h : Ψ (.d d) M) : WI C x y M Ψ := by
  refine ⟨fun S α H Q v u em r1 r2 q => ?_⟩
  obtain ⟨p, vs, e, hh, hl, rr⟩ := dict_rep em hx r1
  have z := dget_of (ky := ky) hh hl rr
  rw [hd] at z
  obtain ⟨v', g, r⟩ := z
  have ek := keyOf_ok hy r2
  intro value slice pins s σ vv uu I rv ru hs
  subst e; subst ek
  cases rv
  refine PyProof.Rows.tail_any (dict_typeIs I g) PySem.F.slot_dict_getitem.lookup ?_ hs
  exact d_getItem ok.hu I g ru fun w' s3 I3 rw' => ⟨v', H, I3, rw', stayE (a := .d d) em q r h⟩
theorem any_zip {ky : Key} : ∀ {ks : List Key} {vs : List V}, vs.length = ks.length → ((ks.zip vs).any fun kv => decide (kv.1 = ky)) = hasK ks ky
  | [], vs, h => rfl
  | k :: ks, [], h => by simp at h
  | k :: ks, v :: vs, h => by
    rw [List.zip_cons_cons, List.any_cons, any_zip (ks := ks) (by simpa using h)]
    rfl
theorem map_zip {ky : Key} {v : V} : ∀ {ks : List Key} {vs : List V}, vs.length = ks.length → ((ks.zip vs).map fun kv => if kv.1 = ky then (kv.1, v) else kv) = ks.zip (List.zipWith (fun k x => if k = ky then v else x) ks vs)
  | [], vs, h => rfl
  | k :: ks, [], h => by simp at h
  | k :: ks, x :: vs, h => by
    rw [List.zip_cons_cons, List.map_cons, map_zip (ks := ks) (by simpa using h), List.zipWith_cons_cons, List.zip_cons_cons]
    by_cases e : k = ky
    · rw [if_pos e, if_pos e]
    · rw [if_neg e, if_neg e]
theorem kput_zip {ky : Key} {v : V} {ks : List Key} {vs : List V} (h : vs.length = ks.length) : putK (ks.zip vs) ky v = (kputK ks ky).zip (kputV ks vs ky v) ∧ (kputV ks vs ky v).length = (kputK ks ky).length := by
  unfold putK kputK kputV
  rw [any_zip h]
  cases hasK ks ky with
  | true => simp only [if_true]; exact ⟨map_zip h, by simp [h]⟩
  | false =>
    simp only [Bool.false_eq_true, if_false]
    exact ⟨by rw [List.zip_append h.symm]; rfl, by simp [h]⟩
theorem reps_zipWith {W : Wd} {S : Addr → Prop} {H : Hp} {ky : Key} {d : D} {v : V} (hd : Rep W S H d v) : ∀ {ks : List Key} {ds : List D} {vs : List V}, Reps W S H ds vs → Reps W S H (List.zipWith (fun k x => if k = ky then d else x) ks ds) (List.zipWith (fun k x => if k = ky then v else x) ks vs)
  | [], ds, vs, r => by simp; exact rfl
  | k :: ks, [], vs, r => by rw [show vs = [] from r]; simp; exact rfl
  | k :: ks, e :: ds, vs, r => by
    obtain ⟨u, r2, eq, h1, t⟩ := (show ∃ v r, vs = v :: r ∧ Rep W S H e v ∧ Reps W S H ds r from r)
    subst eq
    rw [List.zipWith_cons_cons, List.zipWith_cons_cons]
    by_cases q : k = ky
    · rw [if_pos q, if_pos q]; exact reps_cons hd (reps_zipWith hd t)
    · rw [if_neg q, if_neg q]; exact reps_cons h1 (reps_zipWith hd t)
theorem reps_kput {W : Wd} {S : Addr → Prop} {H : Hp} {ky : Key} {d : D} {v : V} {ks : List Key} {ds : List D} {vs : List V} (hd : Rep W S H d v) (r : Reps W S H ds vs) : Reps W S H (kputV ks ds ky d) (kputV ks vs ky v) := by
  unfold kputV
  cases hasK ks ky with
  | true => simp only [if_true]; exact reps_zipWith hd r
  | false => simp only [Bool.false_eq_true, if_false]; exact reps_app r (reps_cons hd reps_nil)
/-- d[y] = z, d a dict of the store -/
theorem wset_k (ok : Cok C P w K mg base N gs Vi Li k) {j : Nat} {ks : List Key} {ds : List D} {y : AV} {ky : Key} {z : D} {R : Mm → Prop} (hk : M[j]? = some (.k ks ds)) (hy : keyOf y = some ky) (hlen : ks.length < 1000000) (h : R (M.set j (.k (kputK ks ky) (kputV ks ds ky z)))) : WSet C (.m j) y (.d z) M R := by
  refine ⟨fun S α H Q xv yv zv em r1 r2 r3 q pins s σ ov iv u I ro ri rv => ?_⟩
  obtain ⟨p, vs, e, ha, hh, hl, rr⟩ := cell_k em hk r1
  have ek := keyOf_ok hy r2
  obtain ⟨e1, e2⟩ := kput_zip (ky := ky) (v := zv) hl
  have g := DPut.k (k := ky) (v := zv) hh (by rw [List.length_zip, sizeLine_eq]; omega)
  rw [e1] at g
  refine set_dict ok.hu pins s σ H xv yv zv ov iv u _ I ro ri rv ⟨p, _, e, by rw [ek]; exact g, ?_⟩
  obtain ⟨em', g'⟩ := em.put (o := .dK ((kputK ks ky).zip (kputV ks vs ky zv))) (m' := .k (kputK ks ky) (kputV ks ds ky z)) ha ⟨p, _, rfl, upd_same, e2, reps_put ha (reps_kput r3 rr)⟩
  exact q _ _ h em' g'
theorem we_dnew {ρ : Rho} {pos : Pos} (h : Ψ (.m M.length) (M ++ [.k [] []])) : WE C (.Dict [] [] pos) ρ M Ψ := by
  refine ⟨fun S α0 H0 α σ H Q bs g ev q => uE_of pe_dnewK fun p hp => ?_⟩
  exact newM (m := .k [] []) ev.em q hp ⟨p, [], rfl, upd_same, rfl, rfl⟩ h
theorem call_lenDU {X : Cx} : CallR X (.builtin "len") (fun xs H Q => ∃ p kvs, xs = [.ref p] ∧ H p = some (.dK kvs) ∧ Q (.int kvs.length) H) := by
  intro pins s σ H xs us Q I r h
  obtain ⟨p, kvs, rfl, hh, q⟩ := h
  obtain ⟨u, rfl, r1⟩ := vals1 r
  cases r1
  exact d_len I (.inl hh) fun t s' I' => ⟨.int kvs.length, H, I', ⟨_, rfl⟩, q⟩
theorem wc_lenD {a : AV} {ks : List Key} {ds : List D} (hs : dictOf M a = some (ks, ds)) (h : Ψ (.d (.int ks.length)) M) : WC C (.builtin "len") [a] M Ψ :=
  ⟨fun S α H Q vs em r q => by
    obtain ⟨v, e, h1⟩ := reps1 r
    obtain ⟨p, us, e2, hh, hl, rr⟩ := dict_rep em hs h1
    refine uC_of call_lenDU ⟨p, _, by rw [e, e2], hh, ?_⟩
    rw [List.length_zip, hl, Nat.min_self]
    exact stayE (a := .d (.int ks.length)) (v := .int ks.length) em q rfl h⟩

/-! ### a try whose body raises nothing -/
abbrev Ctx.quiet (C : Ctx) : Ctx := { C with X := C.X.nox, T := fun _ _ _ _ => False }
theorem Cok.quiet (ok : Cok C P w K mg base N gs Vi Li k) : Cok C.quiet P w K mg base N gs Vi Li k :=
  ⟨ok.prog, ok.wE, ok.kE, ok.mgE, ok.baseE, ok.WK, ok.nE, ok.nd, ok.vis, ok.loc, ok.gl, ok.calm, ok.room⟩
theorem Bs.quiet {S : Addr → Prop} {α0 : Als} {H0 : Hp} (bs : Bs C S α0 H0) : Bs C.quiet S α0 H0 :=
  ⟨bs.len, bs.trk, fun _ _ _ _ => False, (fun _ _ ⟨_, _, _, _, _, _, _, _, _, _, _, _, _, _, _, _, z⟩ => z.elim), fun _ _ _ _ _ _ _ _ _ z => z.elim⟩
theorem w1_thru {body : List Stmt} {h₀ : ExceptHandler} {hs : List ExceptHandler} {ρ : Rho} {Φ : Kn} {pos : Pos} (h : WS C.quiet body ρ M Φ) : W1 C (.Try body (h₀ :: hs) [] [] pos) ρ M Φ := by
  refine ⟨fun S α0 H0 α σ H D bs g ev f => uS_of (ps_try_thru0 (X := C.X) pss_u) ?_⟩
  exact h.run S α0 H0 α σ H D bs.quiet g ev ⟨f.nx, f.rt, f.bk, f.ct⟩
end
end Dl

/-! DLA: bundles of facts for a def's body, and the walk's own words. -/
namespace Dl
open PySem L2

section
variable {P : Program} {w : World} {K : PySem.W.Frag} {mg : Str → Option Value} {base : Heap} {N gs ps : List Str} {Vi Li : List Nat} {k : Nat}
variable {C : Ctx} {e e2 a b c o : Expr} {es : List Expr} {st : Stmt} {sts : List Stmt} {ρ : Rho} {M : Mm} {Φ : Kn} {Ψ : AV → Mm → Prop} {x : Str} {pos p pos' : Pos}
/-- a built-in function, a built-in class, by the name x -/
structure Bk (X : Cx) (x : Str) (id : String) : Prop where
  gl : Gl X x
  mg : X.mg x = none
  bt : bootBuiltins x = some (.builtin id)
  n1 : x ≠ "__name__"
  n2 : (x == ("__debug__" : Str)) = false
structure Bt (X : Cx) (x : Str) (id : String) : Prop where
  gl : Gl X x
  mg : X.mg x = none
  bt : bootBuiltins x = some (.type id)
  n1 : x ≠ "__name__"
  n2 : (x == ("__debug__" : Str)) = false
/-- a def of the text by the name x -/
structure Fc (X : Cx) (W : Wd) (x : Str) (n0 : Nat) (dsp : DSp) : Prop where
  gl : Gl X x
  ex : ∃ f fd ps k, FnOk X.prog X.w X.K X.mg X.base (L2.CX X.prog X.w) k f fd ps (spOf W n0 dsp) ∧ Room k X.A ∧ X.mg x = some (.ref f) ∧ PySem.W.keepIn X.K (.ref f) = true ∧ Binds X.K fd ps []
  n2 : (x == ("__debug__" : Str)) = false
/-- a class of the text by the name x -/
structure Cc (X : Cx) (W : Wd) (x : Str) (c : Nat) (dsp : DSp) : Prop where
  gl : Gl X x
  ex : ∃ f fd ps k, FnOk X.prog X.w X.K X.mg X.base (L2.CX X.prog X.w) k f fd ps (spOf W 1 dsp) ∧ Room (k + 1) X.A ∧ X.mg x = some (.ref (W.ca c)) ∧ Mk X.K (W.ca c) f ∧ Binds X.K fd ps []
  n2 : (x == ("__debug__" : Str)) = false
theorem Cok.bk (ok : Cok C P w K mg base N gs Vi Li k) (i : Nat) {id : String} (hN : gs[i]? = some x) (hm : mg x = none) (hv : bootBuiltins x = some (.builtin id)) (n1 : x ≠ "__name__") (n2 : (x == ("__debug__" : Str)) = false) : Bk C.X x id :=
  ⟨ok.gl i x hN, by rw [ok.mgE]; exact hm, hv, n1, n2⟩
theorem Cok.bt (ok : Cok C P w K mg base N gs Vi Li k) (i : Nat) {id : String} (hN : gs[i]? = some x) (hm : mg x = none) (hv : bootBuiltins x = some (.type id)) (n1 : x ≠ "__name__") (n2 : (x == ("__debug__" : Str)) = false) : Bt C.X x id :=
  ⟨ok.gl i x hN, by rw [ok.mgE]; exact hm, hv, n1, n2⟩
theorem Cok.fc {n0 k' : Nat} {dsp : DSp} (ok : Cok C P w K mg base N gs Vi Li k) (i : Nat) (hN : gs[i]? = some x) (F : Fk P w K mg base C.W x ps n0 dsp k') (hk : k' ≤ k) (n2 : (x == ("__debug__" : Str)) = false) : Fc C.X C.W x n0 dsp := by
  obtain ⟨f, fd, FO, hm, hkp, hb⟩ := F.ex
  refine ⟨ok.gl i x hN, ⟨f, fd, ps, k', ?_, ok.room.mono hk, by rw [ok.mgE]; exact hm, by rw [ok.kE]; exact hkp, by rw [ok.kE]; exact hb⟩, n2⟩
  rw [ok.prog, ok.wE, ok.kE, ok.mgE, ok.baseE]; exact FO
theorem Cok.cc {c k' : Nat} {dsp : DSp} (ok : Cok C P w K mg base N gs Vi Li k) (i : Nat) (hN : gs[i]? = some x) (F : Ck P w K mg base C.W x c ps dsp k') (hk : k' + 1 ≤ k) (n2 : (x == ("__debug__" : Str)) = false) : Cc C.X C.W x c dsp := by
  obtain ⟨f, fd, FO, hm, mk, hb⟩ := F.ex
  refine ⟨ok.gl i x hN, ⟨f, fd, ps, k', ?_, ok.room.mono hk, by rw [ok.mgE]; exact hm, by rw [ok.kE]; exact mk, by rw [ok.kE]; exact hb⟩, n2⟩
  rw [ok.prog, ok.wE, ok.kE, ok.mgE, ok.baseE]; exact FO
theorem we_b {id : String} (B : Bk C.X x id) (h : WA C (e :: es) ρ M fun as M1 => WC C (.builtin id) as M1 Ψ)
    (he : starEach (e :: es) C.X.env = (false, eval e C.X.env) :: starEach es C.X.env := by rfl) (hpl : (backTo pos (starEach es C.X.env)).any (·.1) = false := by rfl) : WE C (.Call (.Name x p) (e :: es) [] pos) ρ M Ψ := by
  refine ⟨fun S α0 H0 α σ H Q bs g ev q => uE_of (pe_callB call_u B.gl B.mg B.bt pa_u B.n1 B.n2 he hpl) ?_⟩
  refine h.run S α0 H0 α σ H _ bs g ev fun as M1 β1 vs H1 p1 em1 g1 r1 => ?_
  exact p1.run S _ H1 Q vs em1 r1 (thnE q g1)
theorem we_t {id : String} (B : Bt C.X x id) (h : WA C (e :: es) ρ M fun as M1 => WC C (.type id) as M1 Ψ)
    (he : starEach (e :: es) C.X.env = (false, eval e C.X.env) :: starEach es C.X.env := by rfl) (hpl : (backTo pos (starEach es C.X.env)).any (·.1) = false := by rfl) : WE C (.Call (.Name x p) (e :: es) [] pos) ρ M Ψ := by
  refine ⟨fun S α0 H0 α σ H Q bs g ev q => uE_of (pe_callTy call_u B.gl B.mg B.bt pa_u B.n1 B.n2 he hpl) ?_⟩
  refine h.run S α0 H0 α σ H _ bs g ev fun as M1 β1 vs H1 p1 em1 g1 r1 => ?_
  exact p1.run S _ H1 Q vs em1 r1 (thnE q g1)
theorem we_tyv {id : String} (B : Bt C.X x id) (h : Ψ (.d (.ty id)) M) : WE C (.Name x pos) ρ M Ψ :=
  ⟨fun S α0 H0 α σ H Q b g ev q => uE_of (pe_bltn (v := .ty id) B.gl B.mg B.bt rfl B.n1 B.n2) (stayE (a := .d (.ty id)) (v := .ty id) ev.em q rfl h)⟩
theorem we_clsv {c : Nat} {dsp : DSp} (B : Cc C.X C.W x c dsp) (h : Ψ (.d (.fn (C.W.ca c))) M) : WE C (.Name x pos) ρ M Ψ := by
  obtain ⟨f, fd, ps, k, _, _, hm, _⟩ := B.ex
  exact ⟨fun S α0 H0 α σ H Q b g ev q => uE_of (pe_glob (v := .ref (C.W.ca c)) B.gl hm rfl B.n2) (stayE (a := .d (.fn (C.W.ca c))) (v := .ref (C.W.ca c)) ev.em q rfl h)⟩
/-- f(..), by what is handed of the store: nothing, the j-th thing -/
theorem we_f {dsp : DSp} (F : Fc C.X C.W x 0 dsp) (h : WA C (e :: es) ρ M fun as M1 => allD as fun _ => call0 C ρ dsp as M1 Ψ)
    (he : starEach (e :: es) C.X.env = (false, eval e C.X.env) :: starEach es C.X.env := by rfl) (hpl : (backTo pos (starEach es C.X.env)).any (·.1) = false := by rfl) :
    WE C (.Call (.Name x p) (e :: es) [] pos) ρ M Ψ := by
  obtain ⟨f, fd, ps, k, FO, hr, hm, hkp, hb⟩ := F.ex
  refine ⟨fun S α0 H0 α σ H Q bs g ev q => ?_⟩
  obtain ⟨Wx, tk, ht⟩ := bs.tk
  refine uE_of (pe_callS FO hr F.gl hm hkp hb (passAt tk) pa_u F.n2 he hpl) ?_
  refine h.run S α0 H0 α σ H _ bs g ev fun as M1 β1 vs H1 p1 em1 g1 r1 => ?_
  obtain ⟨ds, hu, hc⟩ := unD_of_allD p1
  exact spO0 (g.trans g1) (ev.up g1 em1) ht hu r1 (thnE q g1) hc
theorem we_f1 {dsp : DSp} (j : Nat) (F : Fc C.X C.W x 1 dsp) (h : WA C (e :: es) ρ M fun as M1 => only1 j as = true ∧ call1 C ρ j dsp as M1 Ψ)
    (he : starEach (e :: es) C.X.env = (false, eval e C.X.env) :: starEach es C.X.env := by rfl) (hpl : (backTo pos (starEach es C.X.env)).any (·.1) = false := by rfl) :
    WE C (.Call (.Name x p) (e :: es) [] pos) ρ M Ψ := by
  obtain ⟨f, fd, ps, k, FO, hr, hm, hkp, hb⟩ := F.ex
  refine ⟨fun S α0 H0 α σ H Q bs g ev q => ?_⟩
  obtain ⟨Wx, tk, ht⟩ := bs.tk
  refine uE_of (pe_callS FO hr F.gl hm hkp hb (passAt tk) pa_u F.n2 he hpl) ?_
  refine h.run S α0 H0 α σ H _ bs g ev fun as M1 β1 vs H1 p1 em1 g1 r1 => ?_
  exact spO1 (g.trans g1) (ev.up g1 em1) ht p1.1 r1 (thnE q g1) p1.2
/-- a made thing, as data; own equality -/
def callC (C : Ctx) (ρ : Rho) (c : Nat) (dsp : DSp) (as : List AV) (M1 : Mm) (Ψ : AV → Mm → Prop) : Prop :=
  dsp (.m 0 :: as) [.o c []] (fun a M' => ∃ ds, M' = [.o c ds] ∧ a = .d .non ∧ ds.length = (C.W.cf c).length ∧ Ψ (.d (.ob c ds)) M1) (fun cl ds _ => C.T cl ds ρ M1)
def callE (dsp : DSp) (as : List AV) (M : Mm) (Ψ : AV → Mm → Prop) : Prop := dsp as [] (fun a M' => M' = [] ∧ isB a fun t => Ψ (.d (.bl t)) M) (fun _ _ _ => False)
theorem wo_e {c k' : Nat} {dsp : DSp} {ds es : List D} (ok : Cok C P w K mg base N gs Vi Li k) (F : Eqk P w K mg base C.W c ps dsp k') (hk : Nat.ble k' k = true)
    (h : callE dsp [.d (.ob c ds), .d (.ob c es)] M Ψ) : WO C (compareOp .Eq) (.d (.ob c ds)) (.d (.ob c es)) M Ψ := wo_eqO ok F (Nat.le_of_ble_eq_true hk) h
theorem we_c {c : Nat} {dsp : DSp} (F : Cc C.X C.W x c dsp)
    (h : WA C (e :: es) ρ M fun as M1 => allD as fun _ => callC C ρ c dsp as M1 Ψ)
    (he : starEach (e :: es) C.X.env = (false, eval e C.X.env) :: starEach es C.X.env := by rfl) (hpl : (backTo pos (starEach es C.X.env)).any (·.1) = false := by rfl) :
    WE C (.Call (.Name x p) (e :: es) [] pos) ρ M Ψ := by
  obtain ⟨f, fd, ps, k, FO, hr, hm, mk, hb⟩ := F.ex
  exact we_makeC mk FO hr F.gl hm hb h F.n2 he hpl

/-- a local name: seen, stored to -/
structure Lv (X : Cx) (x : Str) (i : Nat) : Prop where
  nm : X.N[i]? = some x
  vis : Vis X.env.scope x
  d1 : (x == ("__debug__" : Str)) = false
  d2 : (x == ("__classdict__" : Str)) = false
structure Ls (X : Cx) (x : Str) (i : Nat) : Prop where
  nm : X.N[i]? = some x
  nd : X.N.Nodup
  loc : Loc X.env.scope x ∧ (X.fn x = true ∨ X.env.scope.names.lookup x = some .local)
/-- a number, a text by a name of the module -/
structure Gi (X : Cx) (x : Str) (n : Int) : Prop where
  gl : Gl X x
  ex : ∃ t, X.mg x = some (.int n t)
  n2 : (x == ("__debug__" : Str)) = false
structure Gs (X : Cx) (x : Str) (n : Str) : Prop where
  gl : Gl X x
  ex : ∃ t, X.mg x = some (.str n t)
  n2 : (x == ("__debug__" : Str)) = false
theorem Cok.lv (ok : Cok C P w K mg base N gs Vi Li k) (i : Nat) (hN : N[i]? = some x) (hV : i ∈ Vi) (d1 : (x == ("__debug__" : Str)) = false) (d2 : (x == ("__classdict__" : Str)) = false) : Lv C.X x i :=
  ⟨by rw [ok.nE]; exact hN, ok.vis i x hV hN, d1, d2⟩
theorem Cok.ls (ok : Cok C P w K mg base N gs Vi Li k) (i : Nat) (hN : N[i]? = some x) (hV : i ∈ Li) : Ls C.X x i :=
  ⟨by rw [ok.nE]; exact hN, by rw [ok.nE]; exact ok.nd, ok.loc i x hV hN⟩
theorem Cok.gi (ok : Cok C P w K mg base N gs Vi Li k) (i : Nat) {n : Int} (hN : gs[i]? = some x) (hm : ∃ t, mg x = some (.int n t)) (d1 : (x == ("__debug__" : Str)) = false) : Gi C.X x n :=
  ⟨ok.gl i x hN, by rw [ok.mgE]; exact hm, d1⟩
theorem Cok.gs' (ok : Cok C P w K mg base N gs Vi Li k) (i : Nat) {n : Str} (hN : gs[i]? = some x) (hm : ∃ t, mg x = some (.str n t)) (d1 : (x == ("__debug__" : Str)) = false) : Gs C.X x n :=
  ⟨ok.gl i x hN, by rw [ok.mgE]; exact hm, d1⟩
theorem we_v {i : Nat} {v : AV} (B : Lv C.X x i) (hρ : ρ[i]? = some (some v)) (h : Ψ v M) : WE C (.Name x pos) ρ M Ψ := by
  refine ⟨fun S α0 H0 α σ H Q b g ev q => uE_of (pe_var (i := i) B.nm B.vis B.d1 B.d2) ?_⟩
  obtain ⟨u, h1, h2⟩ := ev.sl i v hρ
  exact ⟨u, h1, stayE ev.em q h2 h⟩
theorem we_gi {n : Int} (B : Gi C.X x n) (h : Ψ (.d (.int n)) M) : WE C (.Name x pos) ρ M Ψ := by
  obtain ⟨t, hm⟩ := B.ex
  exact ⟨fun S α0 H0 α σ H Q b g ev q => uE_of (pe_glob (v := .int n) B.gl hm ⟨t, rfl⟩ B.n2) (stayE (a := .d (.int n)) (v := .int n) ev.em q rfl h)⟩
theorem we_gs {n : Str} (B : Gs C.X x n) (h : Ψ (.d (.str n)) M) : WE C (.Name x pos) ρ M Ψ := by
  obtain ⟨t, hm⟩ := B.ex
  exact ⟨fun S α0 H0 α σ H Q b g ev q => uE_of (pe_glob (v := .str n) B.gl hm ⟨t, rfl⟩ B.n2) (stayE (a := .d (.str n)) (v := .str n) ev.em q rfl h)⟩
theorem w1_s {i : Nat} {pos' : Pos} (B : Ls C.X x i) (h : WE C e ρ M fun v M' => Nrm (ρ.set i (some v)) M' Φ.nx)
    (hs : swapsWith e (some (.Name x pos')) pos.line C.X.env = pure false := by rfl) : W1 C (.Assign [.Name x pos'] e pos) ρ M Φ := by
  refine ⟨fun S α0 H0 α σ H D bs g ev f => uS_of (ps_set (i := i) B.nd B.nm B.loc.1 pe_u hs B.loc.2) ?_⟩
  show uE C.X e σ H fun u H1 => D.nx (σ.set i (some u)) H1
  refine h.run S α0 H0 α σ H _ bs g ev fun v M1 β u H1 p1 em1 g1 r1 => ?_
  exact f.nx _ M1 (α ++ β) _ H1 p1.out ((ev.up g1 em1).set i r1) (g.trans g1)
theorem w1_p {i j : Nat} {y : Str} {px py pt pt2 : Pos} {kt k2 : Nat} (hc : C.X.calm = true) (B1 : Ls C.X x i) (B2 : Ls C.X y j) (hij : i ≠ j)
    (hx : C.X.env.scope.names.lookup x = some .local) (hy : C.X.env.scope.names.lookup y = some .local)
    (h : WA C [a, b] ρ M fun as M' => ∃ u v, as = [u, v] ∧ Nrm ((ρ.set i (some u)).set j (some v)) M' Φ.nx)
    (hw : swappedStores [.Tuple [.Name x px, .Name y py] kt pt] (.Tuple [a, b] k2 pt2) C.X.env = pure (some [x, y]))
    (hs : swapsWithSole [.Tuple [.Name x px, .Name y py] kt pt] (.Tuple [a, b] k2 pt2) pos.line C.X.env = pure false := by rfl) :
    W1 C (.Assign [.Tuple [.Name x px, .Name y py] kt pt] (.Tuple [a, b] k2 pt2) pos) ρ M Φ := by
  refine ⟨fun S α0 H0 α σ H D bs g ev f => uS_of (ps_par hc B1.nd B1.nm B2.nm hij hx hy pa_u hw hs) ?_⟩
  refine h.run S α0 H0 α σ H _ bs g ev fun as M1 β vs H1 p1 em1 g1 r1 => ?_
  obtain ⟨u, v, e, p1⟩ := p1
  subst e
  obtain ⟨u', v', e, h1, h2⟩ := reps2 r1
  exact ⟨u', v', e, f.nx _ M1 (α ++ β) _ H1 p1.out (((ev.up g1 em1).set i h1).set j h2) (g.trans g1)⟩
theorem wg_n {i : Nat} {v : AV} {Ψ : Rho → Mm → Prop} (B : Ls C.X x i) (h : Nrm (ρ.set i (some v)) M Ψ) : WG C (.Name x pos) v ρ M Ψ := by
  refine ⟨fun S α σ H Q u ev r q => ?_⟩
  refine uG_of (pg_name (i := i) B.nd B.nm B.loc.1 B.loc.2) ?_
  have z := q _ M [] _ H h.out (by rw [app_nil]; exact ev.set i r) Gr.refl
  exact z
/-- joins, branches -/
theorem ws_join (J : Rho → Mm → Prop) (h : W1 C st ρ M { Φ with nx := J }) (h2 : ∀ ρ' M', J ρ' M' → WS C sts ρ' M' Φ) : WS C (st :: sts) ρ M Φ :=
  ws_cons ⟨fun S α0 H0 α σ H D bs g ev f => h.run S α0 H0 α σ H D bs g ev ⟨fun ρ' M' α' σ' H' p ev' g' => f.nx ρ' M' α' σ' H' (h2 ρ' M' p) ev' g', f.rt, f.bk, f.ct⟩⟩
theorem isB_i {t : Bool} {R : Bool → Prop} (h : R t) : isB (.d (.bl t)) R := h
theorem spl2 {t : Bool} {A B : Prop} (h1 : t = false → A) (h2 : t = true → B) : (t = false → A) ∧ (t = true → B) := ⟨h1, h2⟩
theorem spl2' {t : Bool} {A B : Prop} (h1 : t = true → A) (h2 : t = false → B) : (t = true → A) ∧ (t = false → B) := ⟨h1, h2⟩
theorem allD_i {as : List AV} {ds : List D} {R : List D → Prop} (e : unD as = some ds) (h : R ds) : allD as R := by
  unfold allD; rw [e]; exact h
theorem clo_d {x : D} {n : Nat} {R : AV → Mm → Prop} (h : R (.d x) (M.take n)) : Clo n (.d x) M R := h
theorem clo_m {j n : Nat} {R : AV → Mm → Prop} (hj : j < n) (h : R (.m j) (M.take n)) : Clo n (.m j) M R := by
  show (if j < n then R (.m j) (M.take n) else _); rw [if_pos hj]; exact h
theorem clo_l {j n : Nat} {ds : List D} {R : AV → Mm → Prop} (hj : ¬ j < n) (hm : M[j]? = some (.l ds)) (h : R (.d (.lst ds)) (M.take n)) : Clo n (.m j) M R := by
  show (if j < n then R (.m j) (M.take n) else match M[j]? with | some (.l ds) => R (.d (.lst ds)) (M.take n) | some (.k ks ds) => R (.d (.dk ks ds)) (M.take n) | _ => False)
  rw [if_neg hj, hm]; exact h
theorem clo_k {j n : Nat} {ks : List Key} {ds : List D} {R : AV → Mm → Prop} (hj : ¬ j < n) (hm : M[j]? = some (.k ks ds)) (h : R (.d (.dk ks ds)) (M.take n)) : Clo n (.m j) M R := by
  show (if j < n then R (.m j) (M.take n) else match M[j]? with | some (.l ds) => R (.d (.lst ds)) (M.take n) | some (.k ks ds) => R (.d (.dk ks ds)) (M.take n) | _ => False)
  rw [if_neg hj, hm]; exact h
end
end Dl

/-! DLB: where a def stands, a method, the shape of names. -/
namespace Dl
open PySem L2
/-- a def of the module by the name x -/
structure DefAt (K : PySem.W.Frag) (mg : Str → Option Value) (x : Str) (st : Stmt) : Prop where
  ex : ∃ f fd, Fun K x x st f fd ∧ mg x = some (.ref f)
/-- a method of the class at c -/
structure MethAt (K : PySem.W.Frag) (c : Addr) (x qual : Str) (st : Stmt) : Prop where
  ex : ∃ f fd, Fun K x qual st f fd ∧ PySem.W.findIn K (.ref c) x = some (some (.ref f)) ∧ PySem.W.isFn K (.ref f) = true
theorem defAt_of {K : PySem.W.Frag} {h : Heap} {mg : Str → Option Value} {x : Str} {st : Stmt} {f : Addr} {oc : Value} {od : Option Addr} {kV doc pm cdv ct : Value} {an : Option Addr} {osl : Array (Option Value)} (X : K.In h) (G : h.Ns mainGlobals mg)
    (a : PySem.W.nsIn K mainGlobals x = some (some (.ref f))) (l : K.lookup f = some ⟨oc, od, .func (PySem.W.fnOf x x (defArgs st) (defBody st) (defScope st) .none kV doc pm an cdv ct), osl⟩) (c : PySem.W.codeIn K cdv x = true) (k : PySem.W.keepIn K (.ref f) = true) : DefAt K mg x st :=
  ⟨f, _, fun_mk (st := st) l c k, PySem.W.mg_of X G a⟩
theorem methAt_of {K : PySem.W.Frag} {cl : Addr} {x qual : Str} {st : Stmt} {f : Addr} {oc : Value} {od : Option Addr} {kV doc pm cdv ct : Value} {an : Option Addr} {osl : Array (Option Value)}
    (a : PySem.W.findIn K (.ref cl) x = some (some (.ref f))) (l : K.lookup f = some ⟨oc, od, .func (PySem.W.fnOf x qual (defArgs st) (defBody st) (defScope st) .none kV doc pm an cdv ct), osl⟩) (c : PySem.W.codeIn K cdv qual = true) (k : PySem.W.keepIn K (.ref f) = true) (i : PySem.W.isFn K (.ref f) = true) : MethAt K cl x qual st :=
  ⟨f, _, fun_mk (st := st) l c k, a, i⟩
theorem cstI_of {K : PySem.W.Frag} {h : Heap} {mg : Str → Option Value} {x : Str} {n : Int} {v : Value} (X : K.In h) (G : h.Ns mainGlobals mg) (a : PySem.W.nsIn K mainGlobals x = some (some v)) (e : ∃ t, v = .int n t) : ∃ t, mg x = some (.int n t) := by
  obtain ⟨t, e⟩ := e
  subst e
  exact ⟨t, PySem.W.mg_of X G a⟩
theorem cstS_of {K : PySem.W.Frag} {h : Heap} {mg : Str → Option Value} {x n : Str} {v : Value} (X : K.In h) (G : h.Ns mainGlobals mg) (a : PySem.W.nsIn K mainGlobals x = some (some v)) (e : ∃ t, v = .str n t) : ∃ t, mg x = some (.str n t) := by
  obtain ⟨t, e⟩ := e
  subst e
  exact ⟨t, PySem.W.mg_of X G a⟩
/-- a look at a def's names -/
def visC (N : List Str) (sc : Scope) (Vi : List Nat) : Bool := Vi.all fun i => match N[i]? with
  | none => true
  | some y => match sc.names.lookup y with
    | some .local => true
    | some .cell => true
    | _ => false
theorem vis_of {N : List Str} {sc : Scope} {Vi : List Nat} (h : visC N sc Vi = true) (i : Nat) (y : Str) (hi : i ∈ Vi) (e : N[i]? = some y) : sc.names.lookup y = some .local ∨ sc.names.lookup y = some .cell := by
  have z := List.all_eq_true.mp h i hi
  rw [e] at z
  revert z
  dsimp only
  cases sc.names.lookup y with
  | none => intro z; cases z
  | some k => cases k <;> intro z <;> first | exact .inl rfl | exact .inr rfl | cases z
def glC (gs : List Str) (sc : Scope) : Bool := gs.all fun y => match sc.names.lookup y with
  | some .globalImplicit => true
  | _ => false
theorem gl_of {gs : List Str} {sc : Scope} (h : glC gs sc = true) (i : Nat) (y : Str) (e : gs[i]? = some y) : sc.names.lookup y = some .globalImplicit := by
  have z := List.all_eq_true.mp h y (List.mem_of_getElem? e)
  revert z
  cases sc.names.lookup y with
  | none => intro z; cases z
  | some k => cases k <;> intro z <;> first | rfl | cases z
theorem nrm_i {ρ ρ' : Rho} {M M' : Mm} {R : Rho → Mm → Prop} (e1 : ρ = ρ') (e2 : M = M') (h : R ρ' M') : Nrm ρ M R := ⟨ρ', M', e1, e2, h⟩
section
variable {C : Ctx} {e : Expr} {es : List Expr} {ρ : Rho} {M : Mm} {Φ : Kn} {Ψ : AV → Mm → Prop} {pos : Pos}
/-- the result is handed over with all that was made -/
theorem w1_retK (h : WE C e ρ M Φ.rt) : W1 C (.Return (some e) pos) ρ M Φ := by
  refine ⟨fun S α0 H0 α σ H D b g ev f => uS_of (ps_ret pe_u) ?_⟩
  show uE C.X e σ H D.rt
  refine h.run S α0 H0 α σ H _ b g ev fun a M' β v H' p e' g' r => ?_
  exact f.rt a M' _ v H' p e' (g.trans g') r
end

theorem ws_rho {C : Ctx} {sts : List Stmt} {ρ ρ' : Rho} {M : Mm} {Φ : Kn} (e : ρ = ρ') (h : WS C sts ρ' M Φ) : WS C sts ρ M Φ := by subst e; exact h
theorem par_i {i j : Nat} {u v : AV} {ρ : Rho} {M : Mm} {R : Rho → Mm → Prop} (h : Nrm ((ρ.set i (some u)).set j (some v)) M R) : ∃ u' v', [u, v] = [u', v'] ∧ Nrm ((ρ.set i (some u')).set j (some v')) M R := ⟨u, v, rfl, h⟩
theorem w1_q {C : Ctx} {a b : Expr} {ρ : Rho} {M : Mm} {Φ : Kn} {x y : Str} {pos : Pos} {i j : Nat} {px py pt pt2 : Pos} {kt k2 : Nat} {sc : Scope} (hc : C.X.calm = true) (hE : ∃ q L f cdv, C.X.env = PyProof.Rows.envOfC q sc L f cdv) (B1 : Ls C.X x i) (B2 : Ls C.X y j) (hij : i ≠ j)
    (hx : sc.names.lookup x = some .local) (hy : sc.names.lookup y = some .local)
    (h : WA C [a, b] ρ M fun as M' => ∃ u v, as = [u, v] ∧ Nrm ((ρ.set i (some u)).set j (some v)) M' Φ.nx)
    (hw : ∀ q L f cdv, swappedStores [.Tuple [.Name x px, .Name y py] kt pt] (.Tuple [a, b] k2 pt2) (PyProof.Rows.envOfC q sc L f cdv) = pure (some [x, y]))
    (hs : swapsWithSole [.Tuple [.Name x px, .Name y py] kt pt] (.Tuple [a, b] k2 pt2) pos.line C.X.env = pure false := by rfl) :
    W1 C (.Assign [.Tuple [.Name x px, .Name y py] kt pt] (.Tuple [a, b] k2 pt2) pos) ρ M Φ := by
  obtain ⟨q, L, f, cdv, e⟩ := hE
  have e2 : C.X.env.scope = sc := by rw [e]; rfl
  exact w1_p hc B1 B2 hij (by rw [e2]; exact hx) (by rw [e2]; exact hy) h (by rw [e]; exact hw q L f cdv) hs
theorem fld_a {ρ : Rho} {M : Mm} {R : Rho → Mm → Prop} {j c i n : Nat} {ds : List D} {d : D} (h1 : M[j]? = some (.o c ds)) (h2 : Nat.beq i ds.length = true) (h3 : Nat.ble ds.length n = true) (h : Nrm ρ (M.set j (.o c (ds ++ [d]))) R) :
    ∃ j' ds d', AV.m j = .m j' ∧ AV.d d = .d d' ∧ M[j']? = some (.o c ds) ∧ i ≤ ds.length ∧ ds.length ≤ n ∧ Nrm ρ (M.set j' (.o c (putA ds i d'))) R := by
  have e := Nat.eq_of_beq_eq_true h2
  refine ⟨j, ds, d, rfl, rfl, h1, by omega, Nat.le_of_ble_eq_true h3, ?_⟩
  unfold putA; rw [if_neg (by omega)]; exact h
theorem fld_s {ρ : Rho} {M : Mm} {R : Rho → Mm → Prop} {j c i n : Nat} {ds : List D} {d : D} (h1 : M[j]? = some (.o c ds)) (h2 : Nat.ble (i + 1) ds.length = true) (h3 : Nat.ble ds.length n = true) (h : Nrm ρ (M.set j (.o c (ds.set i d))) R) :
    ∃ j' ds d', AV.m j = .m j' ∧ AV.d d = .d d' ∧ M[j']? = some (.o c ds) ∧ i ≤ ds.length ∧ ds.length ≤ n ∧ Nrm ρ (M.set j' (.o c (putA ds i d'))) R := by
  have e := Nat.le_of_ble_eq_true h2
  refine ⟨j, ds, d, rfl, rfl, h1, by omega, Nat.le_of_ble_eq_true h3, ?_⟩
  unfold putA; rw [if_pos (by omega)]; exact h
theorem unD_n : unD [] = some [] := rfl
theorem unD_c {x : D} {as : List AV} {ds : List D} (h : unD as = some ds) : unD (.d x :: as) = some (x :: ds) := by
  show (unD as).map (x :: ·) = _
  rw [h]; rfl
theorem seq_last {R : Mm} {ds : List D} {x : MO} : seqOf (x :: R ++ [.l ds]) (.m (x :: R).length) = some ds := by simp [seqOf]
theorem bits_i {i : Int} {R : Int → Prop} (h : R i) : ∃ i', AV.d (.int i) = .d (.int i') ∧ R i' := ⟨i, rfl, h⟩
theorem ty_i {M : Mm} {a : AV} {T : String} {P : Prop} (h : tyOf M a = some T) (p : P) : tyOf M a = some T ∧ P := ⟨h, p⟩
theorem le_i {n m : Nat} {P : Prop} (h : Nat.ble n m = true) (p : P) : n ≤ m ∧ P := ⟨Nat.le_of_ble_eq_true h, p⟩
theorem nlt_i {n m : Nat} (h : Nat.ble m n = true) : ¬ n < m := Nat.not_lt.mpr (Nat.le_of_ble_eq_true h)
theorem lt_i {n m : Nat} (h : Nat.ble (n + 1) m = true) : n < m := Nat.le_of_ble_eq_true h
theorem mk_i {C : Ctx} {a : AV} {M' M1 : Mm} {n c : Nat} {ds : List D} {Ψ : AV → Mm → Prop} (hl : Nat.beq ds.length n = true) (h : Ψ (.d (.ob c ds)) M1) : ∃ ds', [MO.o c ds] = [.o c ds'] ∧ AV.d .non = .d .non ∧ ds'.length = n ∧ Ψ (.d (.ob c ds')) M1 := ⟨ds, rfl, rfl, Nat.eq_of_beq_eq_true hl, h⟩
theorem wset_n {C : Ctx} {M M' : Mm} {k : Nat} {ds : List D} {i : Int} {j : Nat} {z : D} {R : Mm → Prop} (hk : M[k]? = some (.l ds)) (hi : ixN ds.length i = some j) (e : M.set k (.l (ds.set j z)) = M') (h : R M') : WSet C (.m k) (.d (.int i)) (.d z) M R := wset_l hk hi (by rw [e]; exact h)
theorem atI_nat {α : Type} {xs : List α} {n : Nat} {d : α} (h : xs[n]? = some d) : atI xs (Int.ofNat n) = some d := by
  have hn : n < xs.length := by
    by_cases q : n < xs.length
    · exact q
    · rw [List.getElem?_eq_none (by omega)] at h; cases h
  unfold atI ixN
  rw [if_pos (show (0 : Int) ≤ Int.ofNat n from Int.natCast_nonneg n), if_pos (show Int.ofNat n < (xs.length : Int) from by have : (Int.ofNat n) = (n : Int) := rfl; omega)]
  exact h
theorem wi_lit {C : Ctx} {M : Mm} {Ψ : AV → Mm → Prop} (wk : C.W.K = C.X.K) {a : AV} {n : Nat} {ds : List D} {d : D} (hs : seqOf M a = some ds) (hi : ds[n]? = some d) (h : Ψ (.d d) M) : WI C a (.d (.int (Int.ofNat n))) M Ψ := wi_seq wk hs (atI_nat hi) h
theorem ixN_nat {n m : Nat} (h : n < m) : ixN m (Int.ofNat n) = some n := by
  unfold ixN
  rw [if_pos (show (0 : Int) ≤ Int.ofNat n from Int.natCast_nonneg n), if_pos (show Int.ofNat n < (m : Int) from by have : (Int.ofNat n) = (n : Int) := rfl; omega)]
  rfl
theorem wset_lit {C : Ctx} {M M' : Mm} {k : Nat} {ds : List D} {n : Nat} {z : D} {R : Mm → Prop} (hk : M[k]? = some (.l ds)) (hi : Nat.ble (n + 1) ds.length = true) (e : M.set k (.l (ds.set n z)) = M') (h : R M') : WSet C (.m k) (.d (.int (Int.ofNat n))) (.d z) M R :=
  wset_l hk (ixN_nat (Nat.le_of_ble_eq_true hi)) (by rw [e]; exact h)
/-- the promise of law, at the list that is handed in -/
theorem sp_lawD {K : PySem.W.Frag} {W : Wd} {dsp : DSp} {E : XK} (wk : W.K = K) (H : Hp) (a : Addr) (ns : List Int) (hS : SqL K H a (ns.map V.int)) (Ψ : AV → Mm → Prop) (T : Nat → List D → Mm → Prop) (hd : dsp [.d (.lst (ns.map .int))] [] Ψ T)
    (hQ : ∀ x M, Ψ x M → x = .d (.bl true)) (hT : ∀ c ds M, T c ds M → False) : spOf W 0 dsp [.ref a] H (fun v _ => v = .bl true) E := by
  refine ⟨fun _ => False, [], [], [.d (.lst (ns.map .int))], Ψ, T, ⟨.nil, by simp, fun b z => z.elim⟩, rfl, ?_, hd, fun x M' β v H' p em g r => ?_, fun c ds M' β H' cls dA t => (hT c ds M' t).elim⟩
  · have rr : ∀ l : List Int, Reps W (Av (fun _ => False) []) H (l.map .int) (l.map V.int) := by
      intro l
      induction l with
      | nil => exact reps_nil
      | cons z l ih => exact reps_cons (show Rep W _ H (.int z) (.int z) from rfl) ih
    refine ⟨.ref a, [], rfl, ?_, rfl⟩
    refine ⟨a, ns.map V.int, rfl, ?_, rr ns⟩
    subst wk
    rcases hS with h | h
    · refine .inl ⟨fun z => ?_, h⟩
      rcases z with z | ⟨l, hl, _⟩
      · exact z
      · simp at hl
    · exact .inr (.inr h)
  · have e := hQ x M' p
    subst e
    exact r
section
variable {P : Program} {w : World} {K : PySem.W.Frag} {mg : Str → Option Value} {base : Heap} {N gs ps : List Str} {Vi Li : List Nat} {k : Nat}
/-- a def's body, the place unfolded -/
theorem fn_D2 {x qual : Str} {st : Stmt} {f : Addr} {fd : FuncData} {W : Wd} {n0 : Nat} {dsp : DSp} (F : Fun K x qual st f fd) (S : FnScope N ps (defScope st))
    (vis : visC N (defScope st) Vi = true) (gl : glC gs (defScope st) = true)
    (wk : W.K = K) (hlen : ∀ as M Ψ T, dsp as M Ψ T → as.length = ps.length)
    (body : ∀ (X : Cx) as M Ψ (T : Nat → List D → Mm → Prop), Cok ⟨X, W, n0, fun c ds _ M => T c ds (M.take n0)⟩ P w K mg base N gs Vi Vi k → PassesOwn (model X.prog X.w) X.A X.env X.xe →
      (∃ q L f cdv, X.env = PyProof.Rows.envOfC q (defScope st) L f cdv) → M.length = n0 → dsp as M Ψ T →
      WS ⟨X, W, n0, fun c ds _ M => T c ds (M.take n0)⟩ (defBody st) (rho0 N as) M { nx := fun _ M' => Ψ (.d .non) (M'.take n0), rt := Ψ }) :
    FnOk P w K mg base (L2.CX P w) (k + 1) f fd ps (spOf W n0 dsp) :=
  fn_D F S (vis_of vis) (gl_of gl) wk hlen fun C ok own hst hfr hW hn0 hX as M Ψ T hM hT h => by
    obtain ⟨X, W', n', T'⟩ := C
    simp only at hW hn0 hT hX ok own
    subst hW hn0 hT
    obtain ⟨f', cdv, A, outer, s, H, E, hX⟩ := hX
    exact body X as M Ψ T ok own ⟨_, _, _, _, congrArg Cx.env hX⟩ hM h
end
end Dl

local macro_rules | `(tactic| fail "dl_def") => `(tactic| (refine' Dl.defAt_of ?X ?G ?a ?l ?c ?k; (case X => assumption); (case G => assumption); (case a => k_is); (case l => k_is); (case c => k_is); (case k => k_is)))
local macro_rules | `(tactic| fail "dl_meth") => `(tactic| (refine' Dl.methAt_of ?a ?l ?c ?k ?i; (case a => k_is); (case l => k_is); (case c => k_is); (case k => k_is); (case i => k_is)))
local macro_rules | `(tactic| fail "dl_none") => `(tactic| (refine' PySem.W.mg_none_of ?X ?G ?a; (case X => assumption); (case G => assumption); (case a => k_is)))
local macro_rules | `(tactic| fail "dl_glo") => `(tactic| (refine' PySem.W.mg_of ?X ?G ?a; (case X => assumption); (case G => assumption); (case a => k_is)))
local macro_rules | `(tactic| fail "dl_cst") => `(tactic| first | (refine' Dl.cstI_of ?X ?G ?a ?e; (case X => assumption); (case G => assumption); (case a => k_is); (case e => exact ⟨_, rfl⟩)) | (refine' Dl.cstS_of ?X ?G ?a ?e; (case X => assumption); (case G => assumption); (case a => k_is); (case e => exact ⟨_, rfl⟩)))
local macro_rules | `(tactic| fail "dl_kit") => `(tactic| (first | k_is | kit_is | decide +kernel))
local macro_rules | `(tactic| fail "as") => `(tactic| with_reducible assumption)
local macro_rules | `(tactic| fail "ok") => `(tactic| first | with_reducible assumption | exact Dl.Cok.at (by with_reducible assumption) _ | exact Dl.Cok.at (Dl.Cok.at (by with_reducible assumption) _) _)
local macro_rules | `(tactic| fail "rf") => `(tactic| first | rfl | (simp only [List.set_cons_zero, List.set_cons_succ, List.cons_append, List.nil_append, List.append_nil, List.length_cons, List.length_nil, Nat.reduceAdd]; rfl))
local macro_rules | `(tactic| fail "nm") => `(tactic| (simp only [Int.reduceToNat, List.set_cons_zero, List.set_cons_succ, List.cons_append, List.nil_append, List.append_nil, List.take_succ_cons, List.take_zero, List.take_nil, List.length_cons, List.length_nil, Nat.reduceAdd]; first | done | exact rfl))
local macro_rules | `(tactic| fail "nrm") => `(tactic| with_reducible refine Dl.nrm_i (by first | fail "nm" | exact rfl) (by first | fail "nm" | exact rfl) ?_)
local macro_rules | `(tactic| fail "dl_ws") => `(tactic| first | refine Dl.ws_one ?_ | refine Dl.ws_cons ?_ | refine Dl.ws_nil ?_)
local macro_rules | `(tactic| fail "dl_w1") => `(tactic| first | refine Dl.w1_ret ?_ | refine Dl.w1_s (by fail "as") ?_ | refine Dl.w1_if ?_ | refine Dl.w1_expr ?_ | refine Dl.w1_setix ?_ | refine Dl.w1_fld (by fail "ok") (by fail "as") (Dl.lt_i (by rfl)) _ (by fail "as") ?_ | refine Dl.w1_q (by fail "as") (by fail "as") (by fail "as") (by fail "as") (by decide) (by rfl) (by rfl) ?_ (by intros; rfl) | refine Dl.w1_asg ?_ | refine Dl.w1_pass ?_ | refine Dl.w1_break ?_ | refine Dl.w1_continue ?_ | refine Dl.w1_retN ?_)
local macro_rules | `(tactic| fail "dl_nm") => `(tactic| first | refine Dl.we_v (by fail "as") (by rfl) ?_ | refine Dl.we_gi (by fail "as") ?_ | refine Dl.we_tyv (by fail "as") ?_ | refine Dl.we_clsv (by fail "as") ?_ | refine Dl.we_gs (by fail "as") ?_)
local macro_rules | `(tactic| fail "dl_ca") => `(tactic| first | refine Dl.we_f (by fail "as") ?_ | refine Dl.we_b (by fail "as") ?_ | refine Dl.we_t (by fail "as") ?_ | refine Dl.we_f1 0 (by fail "as") ?_ | refine Dl.we_c (by fail "as") ?_)
local macro_rules | `(tactic| fail "dl_wo") => `(tactic| first | refine Dl.wo_add ?_ | refine Dl.wo_sub ?_ | refine Dl.wo_mul ?_ ?_ | refine Dl.wo_fdiv ?_ ?_ | refine Dl.wo_mod ?_ ?_ | refine Dl.wo_shl ?_ ?_ | refine Dl.wo_pow ?_ ?_ | refine Dl.wo_lt ?_ | refine Dl.wo_le ?_ | refine Dl.wo_gt ?_ | refine Dl.wo_ge ?_ | refine Dl.wo_eq ?_ | refine Dl.wo_ne ?_ | refine Dl.wo_is ?_ | refine Dl.wo_isnot ?_ | refine Dl.wo_eqS ?_ | refine Dl.wo_neS ?_ | refine Dl.wo_eqB ?_ | refine Dl.wo_neB ?_ | refine Dl.wu_neg ?_ | refine Dl.wo_e (by fail "ok") (by fail "as") (by rfl) ?_ | refine Dl.wo_inD (by fail "ok") (by rfl) (by rfl) ?_ | refine Dl.wo_notinD (by fail "ok") (by rfl) (by rfl) ?_)
local macro_rules | `(tactic| fail "dl_wc") => `(tactic| first | refine Dl.wc_abs ?_ | refine Dl.wc_max (by fail "as") ?_ | refine Dl.wc_min (by fail "as") ?_ | refine Dl.wc_int ?_ | refine Dl.wc_divmod ?_ ?_ | refine Dl.wc_len (by fail "as") (by rfl) ?_ | refine Dl.wc_lenD (by rfl) ?_ | refine Dl.wc_list (by fail "as") (by rfl) ?_ | refine Dl.wc_tuple (by fail "as") (by rfl) ?_ | refine Dl.wc_isi_bb (by fail "as") (by rfl) (by first | (show _ = some true; decide +kernel) | (show _ = some false; decide +kernel)) ?_ | refine Dl.wc_isi_cc (by fail "as") (by fail "as") (by fail "as") ?_)
local macro_rules | `(tactic| fail "rho") => `(tactic| (simp only [Dl.rho0, List.map_cons, List.map_nil, List.length_cons, List.length_nil, Nat.reduceAdd, Nat.reduceSub, List.replicate_succ, List.replicate_zero, List.replicate, List.cons_append, List.nil_append, List.append_nil]; first | done | exact rfl))
local macro_rules | `(tactic| fail "dl_sp") => `(tactic| first | (with_reducible refine Dl.spl2 (fun hc => ?_) (fun hc => ?_) <;> (try simp only [decide_eq_true_eq, decide_eq_false_iff_not, Bool.not_eq_true', Bool.not_eq_false', Bool.not_true, Bool.not_false, Bool.false_eq_true, Bool.true_eq_false, reduceCtorEq] at hc) <;> (try (exfalso; exact hc)) <;> (try (exfalso; omega))) | (with_reducible refine Dl.spl2' (fun hc => ?_) (fun hc => ?_) <;> (try simp only [decide_eq_true_eq, decide_eq_false_iff_not, Bool.not_eq_true', Bool.not_eq_false', Bool.not_true, Bool.not_false, Bool.false_eq_true, Bool.true_eq_false, reduceCtorEq] at hc) <;> (try (exfalso; exact hc)) <;> (try (exfalso; omega))))
local macro_rules | `(tactic| fail "dl_cl") => `(tactic| first | with_reducible refine Dl.clo_d ?_ | with_reducible refine Dl.clo_l (Dl.nlt_i (by with_unfolding_all rfl)) (by with_unfolding_all rfl) ?_ | with_reducible refine Dl.clo_m (Dl.lt_i (by with_unfolding_all rfl)) ?_ | with_reducible refine Dl.clo_k (Dl.nlt_i (by with_unfolding_all rfl)) (by with_unfolding_all rfl) ?_)
local macro_rules | `(tactic| fail "dl_we") => `(tactic| first | refine Dl.we_v (by fail "as") (by rfl) ?_ | refine Dl.we_int ?_ | ((with_reducible show Dl.WE _ (PySem.Expr.Call _ _ _ _) _ _ _); first | fail "dl_ca" | refine Dl.we_bits (i := 0) ?_ | refine Dl.we_bm (by fail "as") PySem.F.plainAttrs_list PySem.F.slot_list_append PySem.F.type_list_append ?_) | refine Dl.we_bin ?_ | refine Dl.we_cmp ?_ | refine Dl.we_attr ?_ | refine Dl.we_ix ?_ | ((with_reducible show Dl.WE _ (PySem.Expr.Constant _ _ _) _ _ _); first | refine Dl.we_bl ?_ | refine Dl.we_str ?_ | refine Dl.we_non ?_) | ((with_reducible show Dl.WE _ (PySem.Expr.Name _ _) _ _ _); first | refine Dl.we_gi (by fail "as") ?_ | refine Dl.we_tyv (by fail "as") ?_ | refine Dl.we_clsv (by fail "as") ?_ | refine Dl.we_gs (by fail "as") ?_) | refine Dl.we_and ?_ | refine Dl.we_or ?_ | refine Dl.we_bool1 ?_ | refine Dl.we_not ?_ | refine Dl.we_un ?_ | refine Dl.we_chain ?_ | refine Dl.we_if ?_ | refine Dl.we_tup ?_ | refine Dl.we_lst ?_ | refine Dl.we_dnew ?_)
local macro_rules | `(tactic| fail "dl_wt") => `(tactic| first | refine Dl.wt_cmp ?_ | refine Dl.wt_not ?_ | refine Dl.wt_w (Dl.ww_and ?_) | refine Dl.wt_w (Dl.ww_or ?_) | refine Dl.wt_val ?_)
local macro_rules | `(tactic| fail "dl_ww") => `(tactic| first | refine Dl.ww_and ?_ | refine Dl.ww_or ?_ | refine Dl.ww_and1 ?_ | refine Dl.ww_or1 ?_)
local macro_rules | `(tactic| fail "dl_wf") => `(tactic| first | refine Dl.wf_ob (by fail "ok") (by fail "as") _ (by fail "as") (by rfl) ?_ | refine Dl.wf_m (by fail "ok") (by fail "as") _ (by fail "as") (by rfl) (by rfl) ?_)
local macro_rules | `(tactic| fail "dl_re") => `(tactic| first | with_reducible refine Dl.isB_i ?_ | with_reducible refine Dl.allD_i (by repeat (first | exact Dl.unD_n | apply Dl.unD_c)) ?_ | fail "nrm" | with_reducible refine Dl.par_i ?_ | with_reducible refine Dl.fld_a (by with_unfolding_all rfl) (by with_unfolding_all rfl) (by with_unfolding_all rfl) ?_ | with_reducible refine Dl.fld_s (by with_unfolding_all rfl) (by with_unfolding_all rfl) (by with_unfolding_all rfl) ?_ | with_reducible refine Dl.bits_i ?_ | with_reducible refine Dl.ty_i (by with_unfolding_all rfl) ?_ | with_reducible refine Dl.le_i (by with_unfolding_all rfl) ?_ | fail "dl_sp" | fail "dl_cl" | fail "dl_u")
local macro_rules | `(tactic| fail "dl") => `(tactic| first | ((with_reducible show Dl.WE _ _ _ _ _); fail "dl_we") | ((with_reducible show Dl.WA _ _ _ _ _); first | refine Dl.wa_cons ?_ | refine Dl.wa_nil ?_) | ((with_reducible show Dl.WS _ _ _ _ _); fail "dl_ws") | ((with_reducible show Dl.W1 _ _ _ _ _); fail "dl_w1") | ((with_reducible show Dl.WT _ _ _ _ _); fail "dl_wt") | ((with_reducible show Dl.WO _ _ _ _ _ _); fail "dl_wo") | ((with_reducible show Dl.WC _ _ _ _ _); fail "dl_wc") | ((with_reducible show Dl.WTw _ _ _ _ _); fail "dl_ww") | ((with_reducible show Dl.WF _ _ _ _ _); fail "dl_wf") | refine Dl.wi_lit (by fail "as") (by rfl) (by rfl) ?_ | refine Dl.wi_seq (by fail "as") (by rfl) (by rfl) ?_ | refine Dl.wi_dict (by fail "ok") (by rfl) (by rfl) ?_ ?_ | refine Dl.wset_k (by fail "ok") (by rfl) (by rfl) ?_ ?_ | refine Dl.wu_neg ?_ | refine Dl.wset_lit (by rfl) (by rfl) (by first | fail "nm" | exact rfl) ?_ | refine Dl.wset_n (by rfl) (by rfl) (by first | fail "nm" | exact rfl) ?_ | refine Dl.wm_append (by rfl) ?_ ?_ | refine Dl.wg_n (by fail "as") ?_ | refine Dl.wg_tup (by fail "ok") ?_ | refine Dl.wgs_cons ?_ | refine Dl.wgs_nil ?_ | fail "dl_re")
local macro_rules | `(tactic| fail "dls") => `(tactic| repeat' (fail "dl"))
local macro_rules | `(tactic| fail "dlj") => `(tactic| repeat' ((fail_if_success (with_reducible show Dl.WS _ (PySem.Stmt.If _ _ _ _ :: _ :: _) _ _ _)); fail "dl"))
namespace Lw
open PySem L2 Dl
def topS (i : Nat) : Stmt := (PySem.Challenge.pw_sourcestold_k70_digits_and_periods).main.body.getD i (.Pass ⟨0, 0, 0, 0⟩)
abbrev wd (K : PySem.W.Frag) (cShare : Addr) : Wd := ⟨K, fun | _ => cShare, fun | _ => ["over", "under"]⟩
abbrev s_law : Stmt := topS 34
abbrev N_law : List Str := ["script"]
abbrev g_law : List Str := ["_law_body", "MarkError"]
theorem sc_law : FnScope N_law ["script"] (defScope s_law) := ⟨rfl, rfl, rfl, by decide +kernel, rfl, by decide +kernel, by decide +kernel⟩
theorem vi_law : visC N_law (defScope s_law) [0] = true := by decide +kernel
theorem gl_law : glC g_law (defScope s_law) = true := by decide +kernel
abbrev s__law_body : Stmt := topS 33
abbrev N__law_body : List Str := ["script", "state", "first", "second", "many", "ahead", "length", "row", "k"]
abbrev g__law_body : List Str := ["_law_start", "_law_share", "_law_draw", "_law_told", "_law_period", "digits", "Share", "_law_row_is", "_law_digits", "range"]
theorem sc__law_body : FnScope N__law_body ["script"] (defScope s__law_body) := ⟨rfl, rfl, rfl, by decide +kernel, rfl, by decide +kernel, by decide +kernel⟩
theorem vi__law_body : visC N__law_body (defScope s__law_body) [0, 1, 2, 3, 4, 5, 6, 7, 8] = true := by decide +kernel
theorem gl__law_body : glC g__law_body (defScope s__law_body) = true := by decide +kernel
abbrev s__law_start : Stmt := topS 26
abbrev N__law_start : List Str := ["script"]
abbrev g__law_start : List Str := ["list"]
theorem sc__law_start : FnScope N__law_start ["script"] (defScope s__law_start) := ⟨rfl, rfl, rfl, by decide +kernel, rfl, by decide +kernel, by decide +kernel⟩
theorem vi__law_start : visC N__law_start (defScope s__law_start) [0] = true := by decide +kernel
theorem gl__law_start : glC g__law_start (defScope s__law_start) = true := by decide +kernel
abbrev s__law_share : Stmt := topS 28
abbrev N__law_share : List Str := ["state", "kind", "under", "over"]
abbrev g__law_share : List Str := ["_law_draw"]
theorem sc__law_share : FnScope N__law_share ["state"] (defScope s__law_share) := ⟨rfl, rfl, rfl, by decide +kernel, rfl, by decide +kernel, by decide +kernel⟩
theorem vi__law_share : visC N__law_share (defScope s__law_share) [0, 1, 2, 3] = true := by decide +kernel
theorem gl__law_share : glC g__law_share (defScope s__law_share) = true := by decide +kernel
abbrev s__law_draw : Stmt := topS 27
abbrev N__law_draw : List Str := ["state", "limit", "cell", "got"]
abbrev g__law_draw : List Str := ["max", "len", "abs", "int"]
theorem sc__law_draw : FnScope N__law_draw ["state", "limit"] (defScope s__law_draw) := ⟨rfl, rfl, rfl, by decide +kernel, rfl, by decide +kernel, by decide +kernel⟩
theorem vi__law_draw : visC N__law_draw (defScope s__law_draw) [0, 1, 2, 3] = true := by decide +kernel
theorem gl__law_draw : glC g__law_draw (defScope s__law_draw) = true := by decide +kernel
abbrev s_Share_eq : Stmt := inClass (topS 8) 4
abbrev N_Share_eq : List Str := ["self", "other"]
abbrev g_Share_eq : List Str := ["isinstance", "Share"]
theorem sc_Share_eq : FnScope N_Share_eq ["self", "other"] (defScope s_Share_eq) := ⟨rfl, rfl, rfl, by decide +kernel, rfl, by decide +kernel, by decide +kernel⟩
theorem vi_Share_eq : visC N_Share_eq (defScope s_Share_eq) [0, 1] = true := by decide +kernel
theorem gl_Share_eq : glC g_Share_eq (defScope s_Share_eq) = true := by decide +kernel
abbrev s_Share_init : Stmt := inClass (topS 8) 0
abbrev N_Share_init : List Str := ["self", "over", "under", "divisor"]
abbrev g_Share_init : List Str := ["InvalidNumber", "greatest_divisor", "abs"]
theorem sc_Share_init : FnScope N_Share_init ["self", "over", "under"] (defScope s_Share_init) := ⟨rfl, rfl, rfl, by decide +kernel, rfl, by decide +kernel, by decide +kernel⟩
theorem vi_Share_init : visC N_Share_init (defScope s_Share_init) [0, 1, 2, 3] = true := by decide +kernel
theorem gl_Share_init : glC g_Share_init (defScope s_Share_init) = true := by decide +kernel
abbrev s_greatest_divisor : Stmt := topS 6
abbrev N_greatest_divisor : List Str := ["a", "b"]
abbrev g_greatest_divisor : List Str := []
theorem sc_greatest_divisor : FnScope N_greatest_divisor ["a", "b"] (defScope s_greatest_divisor) := ⟨rfl, rfl, rfl, by decide +kernel, rfl, by decide +kernel, by decide +kernel⟩
theorem vi_greatest_divisor : visC N_greatest_divisor (defScope s_greatest_divisor) [0, 1] = true := by decide +kernel
theorem gl_greatest_divisor : glC g_greatest_divisor (defScope s_greatest_divisor) = true := by decide +kernel
abbrev s__law_told : Stmt := topS 32
abbrev N__law_told : List Str := ["share", "many", "due", "row"]
abbrev g__law_told : List Str := ["_law_period", "_law_digits", "_law_row_is", "digits", "Share", "period"]
theorem sc__law_told : FnScope N__law_told ["share", "many"] (defScope s__law_told) := ⟨rfl, rfl, rfl, by decide +kernel, rfl, by decide +kernel, by decide +kernel⟩
theorem vi__law_told : visC N__law_told (defScope s__law_told) [0, 1, 2, 3] = true := by decide +kernel
theorem gl__law_told : glC g__law_told (defScope s__law_told) = true := by decide +kernel
abbrev s__law_period : Stmt := topS 30
abbrev N__law_period : List Str := ["over", "under", "odd", "ahead", "k", "length", "power"]
abbrev g__law_period : List Str := ["_law_gcd", "range", "int"]
theorem sc__law_period : FnScope N__law_period ["over", "under"] (defScope s__law_period) := ⟨rfl, rfl, rfl, by decide +kernel, rfl, by decide +kernel, by decide +kernel⟩
theorem vi__law_period : visC N__law_period (defScope s__law_period) [0, 1, 2, 3, 4, 5, 6] = true := by decide +kernel
theorem gl__law_period : glC g__law_period (defScope s__law_period) = true := by decide +kernel
abbrev s__law_gcd : Stmt := topS 25
abbrev N__law_gcd : List Str := ["one", "other", "k"]
abbrev g__law_gcd : List Str := ["range", "int"]
theorem sc__law_gcd : FnScope N__law_gcd ["one", "other"] (defScope s__law_gcd) := ⟨rfl, rfl, rfl, by decide +kernel, rfl, by decide +kernel, by decide +kernel⟩
theorem vi__law_gcd : visC N__law_gcd (defScope s__law_gcd) [0, 1, 2] = true := by decide +kernel
theorem gl__law_gcd : glC g__law_gcd (defScope s__law_gcd) = true := by decide +kernel
abbrev s__law_digits : Stmt := topS 29
abbrev N__law_digits : List Str := ["over", "under", "many", "row", "before", "k", "now"]
abbrev g__law_digits : List Str := ["range"]
theorem sc__law_digits : FnScope N__law_digits ["over", "under", "many"] (defScope s__law_digits) := ⟨rfl, rfl, rfl, by decide +kernel, rfl, by decide +kernel, by decide +kernel⟩
theorem vi__law_digits : visC N__law_digits (defScope s__law_digits) [0, 1, 2, 3, 4, 5, 6] = true := by decide +kernel
theorem gl__law_digits : glC g__law_digits (defScope s__law_digits) = true := by decide +kernel
abbrev s__law_row_is : Stmt := topS 31
abbrev N__law_row_is : List Str := ["got", "due", "one", "right"]
abbrev g__law_row_is : List Str := ["isinstance", "tuple", "len", "zip", "_law_integer"]
theorem sc__law_row_is : FnScope N__law_row_is ["got", "due"] (defScope s__law_row_is) := ⟨rfl, rfl, rfl, by decide +kernel, rfl, by decide +kernel, by decide +kernel⟩
theorem vi__law_row_is : visC N__law_row_is (defScope s__law_row_is) [0, 1, 2, 3] = true := by decide +kernel
theorem gl__law_row_is : glC g__law_row_is (defScope s__law_row_is) = true := by decide +kernel
abbrev s__law_integer : Stmt := topS 24
abbrev N__law_integer : List Str := ["value"]
abbrev g__law_integer : List Str := ["isinstance", "int", "bool"]
theorem sc__law_integer : FnScope N__law_integer ["value"] (defScope s__law_integer) := ⟨rfl, rfl, rfl, by decide +kernel, rfl, by decide +kernel, by decide +kernel⟩
theorem vi__law_integer : visC N__law_integer (defScope s__law_integer) [0] = true := by decide +kernel
theorem gl__law_integer : glC g__law_integer (defScope s__law_integer) = true := by decide +kernel
abbrev s_digits : Stmt := topS 21
abbrev N_digits : List Str := ["share", "many", "found", "rest", "_", "digit"]
abbrev g_digits : List Str := ["_check_below_one", "check_number", "COINS_AT_MOST", "range", "_digit_behind", "tuple"]
theorem sc_digits : FnScope N_digits ["share", "many"] (defScope s_digits) := ⟨rfl, rfl, rfl, by decide +kernel, rfl, by decide +kernel, by decide +kernel⟩
theorem vi_digits : visC N_digits (defScope s_digits) [0, 1, 2, 3, 4, 5] = true := by decide +kernel
theorem gl_digits : glC g_digits (defScope s_digits) = true := by decide +kernel
abbrev s__check_below_one : Stmt := topS 19
abbrev N__check_below_one : List Str := ["share"]
abbrev g__check_below_one : List Str := ["check_part", "Share", "InvalidShare"]
theorem sc__check_below_one : FnScope N__check_below_one ["share"] (defScope s__check_below_one) := ⟨rfl, rfl, rfl, by decide +kernel, rfl, by decide +kernel, by decide +kernel⟩
theorem vi__check_below_one : visC N__check_below_one (defScope s__check_below_one) [0] = true := by decide +kernel
theorem gl__check_below_one : glC g__check_below_one (defScope s__check_below_one) = true := by decide +kernel
abbrev s_check_part : Stmt := topS 16
abbrev N_check_part : List Str := ["share"]
abbrev g_check_part : List Str := ["share_to_one", "InvalidShare"]
theorem sc_check_part : FnScope N_check_part ["share"] (defScope s_check_part) := ⟨rfl, rfl, rfl, by decide +kernel, rfl, by decide +kernel, by decide +kernel⟩
theorem vi_check_part : visC N_check_part (defScope s_check_part) [0] = true := by decide +kernel
theorem gl_check_part : glC g_check_part (defScope s_check_part) = true := by decide +kernel
abbrev s_share_to_one : Stmt := topS 13
abbrev N_share_to_one : List Str := ["told"]
abbrev g_share_to_one : List Str := ["share_from_zero"]
theorem sc_share_to_one : FnScope N_share_to_one ["told"] (defScope s_share_to_one) := ⟨rfl, rfl, rfl, by decide +kernel, rfl, by decide +kernel, by decide +kernel⟩
theorem vi_share_to_one : visC N_share_to_one (defScope s_share_to_one) [0] = true := by decide +kernel
theorem gl_share_to_one : glC g_share_to_one (defScope s_share_to_one) = true := by decide +kernel
abbrev s_share_from_zero : Stmt := topS 12
abbrev N_share_from_zero : List Str := ["told"]
abbrev g_share_from_zero : List Str := ["isinstance", "Share"]
theorem sc_share_from_zero : FnScope N_share_from_zero ["told"] (defScope s_share_from_zero) := ⟨rfl, rfl, rfl, by decide +kernel, rfl, by decide +kernel, by decide +kernel⟩
theorem vi_share_from_zero : visC N_share_from_zero (defScope s_share_from_zero) [0] = true := by decide +kernel
theorem gl_share_from_zero : glC g_share_from_zero (defScope s_share_from_zero) = true := by decide +kernel
abbrev s_check_number : Stmt := topS 15
abbrev N_check_number : List Str := ["number", "least", "most"]
abbrev g_check_number : List Str := ["integer_within", "InvalidNumber"]
theorem sc_check_number : FnScope N_check_number ["number", "least", "most"] (defScope s_check_number) := ⟨rfl, rfl, rfl, by decide +kernel, rfl, by decide +kernel, by decide +kernel⟩
theorem vi_check_number : visC N_check_number (defScope s_check_number) [0, 1, 2] = true := by decide +kernel
theorem gl_check_number : glC g_check_number (defScope s_check_number) = true := by decide +kernel
abbrev s_integer_within : Stmt := topS 11
abbrev N_integer_within : List Str := ["told", "least", "most"]
abbrev g_integer_within : List Str := ["is_integer"]
theorem sc_integer_within : FnScope N_integer_within ["told", "least", "most"] (defScope s_integer_within) := ⟨rfl, rfl, rfl, by decide +kernel, rfl, by decide +kernel, by decide +kernel⟩
theorem vi_integer_within : visC N_integer_within (defScope s_integer_within) [0, 1, 2] = true := by decide +kernel
theorem gl_integer_within : glC g_integer_within (defScope s_integer_within) = true := by decide +kernel
abbrev s_is_integer : Stmt := topS 10
abbrev N_is_integer : List Str := ["told"]
abbrev g_is_integer : List Str := ["isinstance", "int", "bool"]
theorem sc_is_integer : FnScope N_is_integer ["told"] (defScope s_is_integer) := ⟨rfl, rfl, rfl, by decide +kernel, rfl, by decide +kernel, by decide +kernel⟩
theorem vi_is_integer : visC N_is_integer (defScope s_is_integer) [0] = true := by decide +kernel
theorem gl_is_integer : glC g_is_integer (defScope s_is_integer) = true := by decide +kernel
abbrev s__digit_behind : Stmt := topS 20
abbrev N__digit_behind : List Str := ["rest", "under"]
abbrev g__digit_behind : List Str := ["divmod"]
theorem sc__digit_behind : FnScope N__digit_behind ["rest", "under"] (defScope s__digit_behind) := ⟨rfl, rfl, rfl, by decide +kernel, rfl, by decide +kernel, by decide +kernel⟩
theorem vi__digit_behind : visC N__digit_behind (defScope s__digit_behind) [0, 1] = true := by decide +kernel
theorem gl__digit_behind : glC g__digit_behind (defScope s__digit_behind) = true := by decide +kernel
abbrev s_period : Stmt := topS 22
abbrev N_period : List Str := ["share", "places", "rest", "_"]
abbrev g_period : List Str := ["_check_below_one", "len", "_digit_behind"]
theorem sc_period : FnScope N_period ["share"] (defScope s_period) := ⟨rfl, rfl, rfl, by decide +kernel, rfl, by decide +kernel, by decide +kernel⟩
theorem vi_period : visC N_period (defScope s_period) [0, 1, 2, 3] = true := by decide +kernel
theorem gl_period : glC g_period (defScope s_period) = true := by decide +kernel
structure Txt (K : PySem.W.Frag) (mg : Str → Option Value) (cShare : Addr) : Prop where
  d_law : DefAt K mg "law" s_law
  d__law_body : DefAt K mg "_law_body" s__law_body
  d__law_start : DefAt K mg "_law_start" s__law_start
  d__law_share : DefAt K mg "_law_share" s__law_share
  d__law_draw : DefAt K mg "_law_draw" s__law_draw
  d_Share_eq : MethAt K cShare "__eq__" "Share.__eq__" s_Share_eq
  d_Share_init : MethAt K cShare "__init__" "Share.__init__" s_Share_init
  d_greatest_divisor : DefAt K mg "greatest_divisor" s_greatest_divisor
  d__law_told : DefAt K mg "_law_told" s__law_told
  d__law_period : DefAt K mg "_law_period" s__law_period
  d__law_gcd : DefAt K mg "_law_gcd" s__law_gcd
  d__law_digits : DefAt K mg "_law_digits" s__law_digits
  d__law_row_is : DefAt K mg "_law_row_is" s__law_row_is
  d__law_integer : DefAt K mg "_law_integer" s__law_integer
  d_digits : DefAt K mg "digits" s_digits
  d__check_below_one : DefAt K mg "_check_below_one" s__check_below_one
  d_check_part : DefAt K mg "check_part" s_check_part
  d_share_to_one : DefAt K mg "share_to_one" s_share_to_one
  d_share_from_zero : DefAt K mg "share_from_zero" s_share_from_zero
  d_check_number : DefAt K mg "check_number" s_check_number
  d_integer_within : DefAt K mg "integer_within" s_integer_within
  d_is_integer : DefAt K mg "is_integer" s_is_integer
  d__digit_behind : DefAt K mg "_digit_behind" s__digit_behind
  d_period : DefAt K mg "period" s_period
  b_range : mg "range" = none
  b_list : mg "list" = none
  b_max : mg "max" = none
  b_len : mg "len" = none
  b_abs : mg "abs" = none
  b_int : mg "int" = none
  b_isinstance : mg "isinstance" = none
  b_tuple : mg "tuple" = none
  b_zip : mg "zip" = none
  b_bool : mg "bool" = none
  b_divmod : mg "divmod" = none
  i_COINS_AT_MOST : ∃ t, mg "COINS_AT_MOST" = some (.int 200 t)
  c_Share : mg "Share" = some (.ref cShare)
  k_Share : PySem.W.keepIn K (.ref cShare) = true
  pg_Share : PySem.W.plainGet K cShare Str.empty = true
  hd_Share : PySem.W.hasDictIn K cShare = true
  po_Share : PySem.W.plainOver K cShare = true
  sa_Share : PySem.W.findIn K (.ref cShare) "__setattr__" = some (some (.builtin "object.__setattr__"))
  mk_Share : PySem.W.makesIn K cShare = true
  na_Share_over : NoAttr K cShare "over"
  na_Share_under : NoAttr K cShare "under"
  ha_Share : PySem.W.findIn K (.ref cShare) "__class__" = some (some (.builtin "object.__class__"))
  hm_Share : PySem.W.mroIn K cShare (.type "object") = some true
  kc_Share : PySem.W.kitOne K (.ref cShare) (.ref cShare) = some true
  hn : PySem.W.specialIn K (.builtin "object.__class__") "__get__" = some (some (.builtin "getset_descriptor.__get__"))
  ht : PySem.W.takesIn K (.builtin "object.__class__") = some true
theorem Txt.cls_Share {K : PySem.W.Frag} {mg : Str → Option Value} {cShare : Addr} (T : Txt K mg cShare) : ClsF K (wd K cShare) 0 := by
  refine ⟨⟨T.pg_Share, T.hd_Share, T.po_Share, T.sa_Share⟩, fun i f e => ?_, (by decide +kernel : (["over", "under"] : List Str).Nodup)⟩
  match i, e with
  | 0, e => cases e; exact T.na_Share_over
  | 1, e => cases e; exact T.na_Share_under
  | n + 2, e => cases e
theorem Txt.isf_Share {K : PySem.W.Frag} {mg : Str → Option Value} {cShare : Addr} (T : Txt K mg cShare) : IsF K (wd K cShare) 0 := ⟨⟨T.pg_Share, T.hd_Share, T.po_Share, T.sa_Share⟩, T.ha_Share, T.hn, T.ht, T.hm_Share⟩
def dsp_greatest_divisor : DSp := fun as M Ψ _ => ∃ a b : Int, as = [.d (.int a), .d (.int b)] ∧ (0 ≤ a ∧ 0 ≤ b) ∧ Ψ (.d (.int (Int.gcd a b))) M
def dsp_is_integer : DSp := fun as M Ψ _ => ∃ a : Int, as = [.d (.int a)] ∧ Ψ (.d (.bl true)) M
def dsp_integer_within : DSp := fun as M Ψ _ => ∃ a b c : Int, as = [.d (.int a), .d (.int b), .d (.int c)] ∧ (b ≤ a ∧ a ≤ c) ∧ Ψ (.d (.bl true)) M
def dsp_Share_init : DSp := fun as M Ψ _ => ∃ a b : Int, as = [.m 0, .d (.int a), .d (.int b)] ∧ M = [.o 0 []] ∧ (0 ≤ a ∧ 0 < b ∧ b < 1000000000) ∧ Ψ (.d .non) [.o 0 [.int (a / Int.gcd a b), .int (b / Int.gcd a b)]]
def dsp_Share_eq : DSp := fun as M Ψ _ => ∃ a b c d : Int, as = [.d (.ob 0 [.int a, .int b]), .d (.ob 0 [.int c, .int d])] ∧ Ψ (.d (.bl (decide (a = c) && decide (b = d)))) M
def dsp_share_from_zero : DSp := fun as M Ψ _ => ∃ a b : Int, as = [.d (.ob 0 [.int a, .int b])] ∧ 0 ≤ a ∧ Ψ (.d (.bl true)) M
def dsp_share_to_one : DSp := fun as M Ψ _ => ∃ a b : Int, as = [.d (.ob 0 [.int a, .int b])] ∧ (0 ≤ a ∧ a ≤ b) ∧ Ψ (.d (.bl true)) M
def dsp_check_number : DSp := fun as M Ψ _ => ∃ a b c : Int, as = [.d (.int a), .d (.int b), .d (.int c)] ∧ (b ≤ a ∧ a ≤ c) ∧ Ψ (.d .non) M
def dsp_check_part : DSp := fun as M Ψ _ => ∃ a b : Int, as = [.d (.ob 0 [.int a, .int b])] ∧ (0 ≤ a ∧ a ≤ b) ∧ Ψ (.d .non) M
def dsp__check_below_one : DSp := fun as M Ψ _ => ∃ a b : Int, as = [.d (.ob 0 [.int a, .int b])] ∧ (0 ≤ a ∧ a < b) ∧ Ψ (.d .non) M
def dsp__digit_behind : DSp := fun as M Ψ _ => ∃ a b : Int, as = [.d (.int a), .d (.int b)] ∧ (0 < b ∧ b < 1000000000) ∧ Ψ (.d (.tup [.int (2 * a / b), .int (2 * a % b)])) M
theorem gcd_em {a b : Int} (h1 : 0 ≤ a) (h2 : 0 < b) : Int.gcd b (a % b) = Int.gcd a b := by
  obtain ⟨m, rfl⟩ := Int.eq_ofNat_of_zero_le h1
  obtain ⟨n, rfl⟩ := Int.eq_ofNat_of_zero_le (Int.le_of_lt h2)
  show Nat.gcd n (((m : Int) % (n : Int)).natAbs) = Nat.gcd m n
  rw [show ((m : Int) % (n : Int)).natAbs = m % n from by rw [← Int.natCast_emod]; rfl, Nat.gcd_comm m n, Nat.gcd_comm n (m % n), ← Nat.gcd_rec]
section
variable {C : Dl.Ctx} {ρ : Rho} {M : Mm} {Ψ : AV → Mm → Prop}
theorem ca_gd {a b : Int} (hp : 0 ≤ a ∧ 0 ≤ b) (h : Ψ (.d (.int (Int.gcd a b))) M) : call0 C ρ dsp_greatest_divisor [.d (.int a), .d (.int b)] M Ψ := ⟨a, b, rfl, hp, by show Ψ _ (M ++ []); rw [List.append_nil]; exact h⟩
theorem ca_ii {a : Int} (h : Ψ (.d (.bl true)) M) : call0 C ρ dsp_is_integer [.d (.int a)] M Ψ := ⟨a, rfl, by show Ψ _ (M ++ []); rw [List.append_nil]; exact h⟩
theorem ca_iw {a b c : Int} (hp : b ≤ a ∧ a ≤ c) (h : Ψ (.d (.bl true)) M) : call0 C ρ dsp_integer_within [.d (.int a), .d (.int b), .d (.int c)] M Ψ := ⟨a, b, c, rfl, hp, by show Ψ _ (M ++ []); rw [List.append_nil]; exact h⟩
theorem ca_sf {a b : Int} (hp : 0 ≤ a) (h : Ψ (.d (.bl true)) M) : call0 C ρ dsp_share_from_zero [.d (.ob 0 [.int a, .int b])] M Ψ := ⟨a, b, rfl, hp, by show Ψ _ (M ++ []); rw [List.append_nil]; exact h⟩
theorem ca_st {a b : Int} (hp : 0 ≤ a ∧ a ≤ b) (h : Ψ (.d (.bl true)) M) : call0 C ρ dsp_share_to_one [.d (.ob 0 [.int a, .int b])] M Ψ := ⟨a, b, rfl, hp, by show Ψ _ (M ++ []); rw [List.append_nil]; exact h⟩
theorem ca_cn {a b c : Int} (hp : b ≤ a ∧ a ≤ c) (h : Ψ (.d .non) M) : call0 C ρ dsp_check_number [.d (.int a), .d (.int b), .d (.int c)] M Ψ := ⟨a, b, c, rfl, hp, by show Ψ _ (M ++ []); rw [List.append_nil]; exact h⟩
theorem ca_cp {a b : Int} (hp : 0 ≤ a ∧ a ≤ b) (h : Ψ (.d .non) M) : call0 C ρ dsp_check_part [.d (.ob 0 [.int a, .int b])] M Ψ := ⟨a, b, rfl, hp, by show Ψ _ (M ++ []); rw [List.append_nil]; exact h⟩
theorem ca_cb {a b : Int} (hp : 0 ≤ a ∧ a < b) (h : Ψ (.d .non) M) : call0 C ρ dsp__check_below_one [.d (.ob 0 [.int a, .int b])] M Ψ := ⟨a, b, rfl, hp, by show Ψ _ (M ++ []); rw [List.append_nil]; exact h⟩
theorem ca_db {a b : Int} (hp : 0 < b ∧ b < 1000000000) (h : Ψ (.d (.tup [.int (2 * a / b), .int (2 * a % b)])) M) : call0 C ρ dsp__digit_behind [.d (.int a), .d (.int b)] M Ψ := ⟨a, b, rfl, hp, by show Ψ _ (M ++ []); rw [List.append_nil]; exact h⟩
theorem ca_si {a b : Int} {X : Cx} {K : PySem.W.Frag} {c : Addr} {n : Nat} {T : XP} (hp : 0 ≤ a ∧ 0 < b ∧ b < 1000000000) (h : Ψ (.d (.ob 0 [.int (a / Int.gcd a b), .int (b / Int.gcd a b)])) M) :
    callC ⟨X, wd K c, n, T⟩ ρ 0 dsp_Share_init [.d (.int a), .d (.int b)] M Ψ := ⟨a, b, rfl, rfl, hp, _, rfl, rfl, rfl, h⟩
theorem ca_se {a b c d : Int} (h : Ψ (.d (.bl (decide (a = c) && decide (b = d)))) M) : callE dsp_Share_eq [.d (.ob 0 [.int a, .int b]), .d (.ob 0 [.int c, .int d])] M Ψ := ⟨a, b, c, d, rfl, rfl, h⟩
end
local macro_rules | `(tactic| fail "dl_u") => `(tactic| with_reducible refine Lw.ca_gd ?_ ?_)
local macro_rules | `(tactic| fail "dl_u") => `(tactic| with_reducible refine Lw.ca_ii ?_)
local macro_rules | `(tactic| fail "dl_u") => `(tactic| with_reducible refine Lw.ca_iw ?_ ?_)
local macro_rules | `(tactic| fail "dl_u") => `(tactic| with_reducible refine Lw.ca_sf ?_ ?_)
local macro_rules | `(tactic| fail "dl_u") => `(tactic| with_reducible refine Lw.ca_st ?_ ?_)
local macro_rules | `(tactic| fail "dl_u") => `(tactic| with_reducible refine Lw.ca_cn ?_ ?_)
local macro_rules | `(tactic| fail "dl_u") => `(tactic| with_reducible refine Lw.ca_cp ?_ ?_)
local macro_rules | `(tactic| fail "dl_u") => `(tactic| with_reducible refine Lw.ca_cb ?_ ?_)
local macro_rules | `(tactic| fail "dl_u") => `(tactic| with_reducible refine Lw.ca_db ?_ ?_)
local macro_rules | `(tactic| fail "dl_u") => `(tactic| with_reducible refine Lw.ca_si ?_ ?_)
local macro_rules | `(tactic| fail "dl_u") => `(tactic| with_reducible refine Lw.ca_se ?_)
set_option maxHeartbeats 4000000 in
theorem fk_is_integer {P : Program} {w : World} {K : PySem.W.Frag} {mg : Str → Option Value} {base : Heap} {cShare : Addr} (T : Txt K mg cShare) : Fk P w K mg base (wd K cShare) "is_integer" ["told"] 0 dsp_is_integer 1 := by
  obtain ⟨f, fd, F, hm⟩ := T.d_is_integer.ex
  refine ⟨f, fd, fn_D2 F sc_is_integer vi_is_integer gl_is_integer rfl (fun as M Ψ E h => ?_) (fun X as M Ψ E ok own hX hM h => ?_), hm, F.kp, F.binds fun _ _ _ _ _ _ us hl => match us, hl with | [_], _ => rfl⟩
  · obtain ⟨a, rfl, h⟩ := h; rfl
  have l0 : Lv X "told" 0 := ok.lv 0 rfl (by decide) rfl rfl
  have t0 : Ls X "told" 0 := ok.ls 0 rfl (by decide)
  have b0 : Bk X "isinstance" "isinstance" := ok.bk 0 rfl T.b_isinstance rfl (by decide) rfl
  have b1 : Bt X "int" "int" := ok.bt 1 rfl T.b_int rfl (by decide) rfl
  have b2 : Bt X "bool" "bool" := ok.bt 2 rfl T.b_bool rfl (by decide) rfl
  have kShare := T.cls_Share
  have sShare : IsF X.K (wd K cShare) 0 := by rw [show X.K = K from ok.kE]; exact T.isf_Share
  have jShare : PySem.W.kitOne X.K (.ref cShare) (.ref cShare) = some true := by rw [show X.K = K from ok.kE]; exact T.kc_Share
  have qShare0 : ((wd K cShare).cf 0)[0]? = some ("over" : Str) := rfl
  have qShare1 : ((wd K cShare).cf 0)[1]? = some ("under" : Str) := rfl
  have calm := ok.calm
  have wk := ok.wk
  obtain ⟨a, rfl, h⟩ := h
  obtain rfl : M = [] := List.eq_nil_of_length_eq_zero hM
  refine ws_rho (by fail "rho") ?_
  fail "dls"
  all_goals exact h
set_option maxHeartbeats 4000000 in
theorem fk_greatest_divisor {P : Program} {w : World} {K : PySem.W.Frag} {mg : Str → Option Value} {base : Heap} {cShare : Addr} (T : Txt K mg cShare) : Fk P w K mg base (wd K cShare) "greatest_divisor" ["a", "b"] 0 dsp_greatest_divisor 1 := by
  obtain ⟨f, fd, F, hm⟩ := T.d_greatest_divisor.ex
  refine ⟨f, fd, fn_D2 F sc_greatest_divisor vi_greatest_divisor gl_greatest_divisor rfl (fun as M Ψ E h => ?_) (fun X as M Ψ E ok own hX hM h => ?_), hm, F.kp, F.binds fun _ _ _ _ _ _ us hl => match us, hl with | [_, _], _ => rfl⟩
  · obtain ⟨a, b, rfl, hp, h⟩ := h; rfl
  have l0 : Lv X "a" 0 := ok.lv 0 rfl (by decide) rfl rfl
  have t0 : Ls X "a" 0 := ok.ls 0 rfl (by decide)
  have l1 : Lv X "b" 1 := ok.lv 1 rfl (by decide) rfl rfl
  have t1 : Ls X "b" 1 := ok.ls 1 rfl (by decide)
  have kShare := T.cls_Share
  have sShare : IsF X.K (wd K cShare) 0 := by rw [show X.K = K from ok.kE]; exact T.isf_Share
  have jShare : PySem.W.kitOne X.K (.ref cShare) (.ref cShare) = some true := by rw [show X.K = K from ok.kE]; exact T.kc_Share
  have qShare0 : ((wd K cShare).cf 0)[0]? = some ("over" : Str) := rfl
  have qShare1 : ((wd K cShare).cf 0)[1]? = some ("under" : Str) := rfl
  have calm := ok.calm
  have wk := ok.wk
  obtain ⟨a, b, rfl, hp, h⟩ := h
  obtain rfl : M = [] := List.eq_nil_of_length_eq_zero hM
  refine ws_rho (by fail "rho") ?_
  refine ws_cons (w1_while own (fun m ρ M => ∃ a' b' : Int, m = b'.toNat ∧ 0 ≤ a' ∧ 0 ≤ b' ∧ Int.gcd a' b' = Int.gcd a b ∧ ρ = [some (.d (.int a')), some (.d (.int b'))] ∧ M = []) _ ⟨a, b, rfl, hp.1, hp.2, rfl, rfl, rfl⟩ ?_)
  rintro m ρ' M' ⟨a', b', rfl, h1, h2, h3, rfl, rfl⟩
  fail "dls"
  · omega
  · rename_i hc
    have h4 := Int.emod_nonneg a' (Int.ne_of_gt hc)
    have h5 := Int.emod_lt_of_pos a' hc
    exact ⟨_, by omega, b', a' % b', rfl, h2, h4, by rw [← h3]; exact gcd_em h1 hc, rfl, rfl⟩
  · rename_i hc
    have : b' = 0 := by omega
    subst this
    have e : ((Int.gcd a b : Nat) : Int) = a' := by rw [← h3, Int.gcd_zero_right]; omega
    rw [e] at h; exact h
set_option maxHeartbeats 4000000 in
theorem fk_integer_within {P : Program} {w : World} {K : PySem.W.Frag} {mg : Str → Option Value} {base : Heap} {cShare : Addr} (T : Txt K mg cShare) : Fk P w K mg base (wd K cShare) "integer_within" ["told", "least", "most"] 0 dsp_integer_within 2 := by
  obtain ⟨f, fd, F, hm⟩ := T.d_integer_within.ex
  refine ⟨f, fd, fn_D2 F sc_integer_within vi_integer_within gl_integer_within rfl (fun as M Ψ E h => ?_) (fun X as M Ψ E ok own hX hM h => ?_), hm, F.kp, F.binds fun _ _ _ _ _ _ us hl => match us, hl with | [_, _, _], _ => rfl⟩
  · obtain ⟨a, b, c, rfl, hp, h⟩ := h; rfl
  have l0 : Lv X "told" 0 := ok.lv 0 rfl (by decide) rfl rfl
  have t0 : Ls X "told" 0 := ok.ls 0 rfl (by decide)
  have l1 : Lv X "least" 1 := ok.lv 1 rfl (by decide) rfl rfl
  have t1 : Ls X "least" 1 := ok.ls 1 rfl (by decide)
  have l2 : Lv X "most" 2 := ok.lv 2 rfl (by decide) rfl rfl
  have t2 : Ls X "most" 2 := ok.ls 2 rfl (by decide)
  have f0 := ok.fc 0 (x := "is_integer") rfl (fk_is_integer T) (by decide) rfl
  have kShare := T.cls_Share
  have sShare : IsF X.K (wd K cShare) 0 := by rw [show X.K = K from ok.kE]; exact T.isf_Share
  have jShare : PySem.W.kitOne X.K (.ref cShare) (.ref cShare) = some true := by rw [show X.K = K from ok.kE]; exact T.kc_Share
  have qShare0 : ((wd K cShare).cf 0)[0]? = some ("over" : Str) := rfl
  have qShare1 : ((wd K cShare).cf 0)[1]? = some ("under" : Str) := rfl
  have calm := ok.calm
  have wk := ok.wk
  obtain ⟨a, b, c, rfl, hp, h⟩ := h
  obtain rfl : M = [] := List.eq_nil_of_length_eq_zero hM
  refine ws_rho (by fail "rho") ?_
  fail "dls"
  all_goals try rw [decide_eq_true hp.2]
  all_goals exact h
set_option maxHeartbeats 4000000 in
theorem fk_Share_init {P : Program} {w : World} {K : PySem.W.Frag} {mg : Str → Option Value} {base : Heap} {cShare : Addr} (T : Txt K mg cShare) : Ck P w K mg base (wd K cShare) "Share" 0 ["self", "over", "under"] dsp_Share_init 2 := by
  obtain ⟨f, fd, F, hm, hf⟩ := T.d_Share_init.ex
  refine ⟨f, fd, fn_D2 F sc_Share_init vi_Share_init gl_Share_init rfl (fun as M Ψ E h => ?_) (fun X as M Ψ E ok own hX hM h => ?_), T.c_Share, ⟨T.mk_Share, hm, hf, T.k_Share⟩, F.binds fun _ _ _ _ _ _ us hl => match us, hl with | [_, _, _], _ => rfl⟩
  · obtain ⟨a, b, rfl, rfl, hp, h⟩ := h; rfl
  have l0 : Lv X "self" 0 := ok.lv 0 rfl (by decide) rfl rfl
  have t0 : Ls X "self" 0 := ok.ls 0 rfl (by decide)
  have l1 : Lv X "over" 1 := ok.lv 1 rfl (by decide) rfl rfl
  have t1 : Ls X "over" 1 := ok.ls 1 rfl (by decide)
  have l2 : Lv X "under" 2 := ok.lv 2 rfl (by decide) rfl rfl
  have t2 : Ls X "under" 2 := ok.ls 2 rfl (by decide)
  have l3 : Lv X "divisor" 3 := ok.lv 3 rfl (by decide) rfl rfl
  have t3 : Ls X "divisor" 3 := ok.ls 3 rfl (by decide)
  have f1 := ok.fc 1 (x := "greatest_divisor") rfl (fk_greatest_divisor T) (by decide) rfl
  have b2 : Bk X "abs" "abs" := ok.bk 2 rfl T.b_abs rfl (by decide) rfl
  have kShare := T.cls_Share
  have sShare : IsF X.K (wd K cShare) 0 := by rw [show X.K = K from ok.kE]; exact T.isf_Share
  have jShare : PySem.W.kitOne X.K (.ref cShare) (.ref cShare) = some true := by rw [show X.K = K from ok.kE]; exact T.kc_Share
  have qShare0 : ((wd K cShare).cf 0)[0]? = some ("over" : Str) := rfl
  have qShare1 : ((wd K cShare).cf 0)[1]? = some ("under" : Str) := rfl
  have calm := ok.calm
  have wk := ok.wk
  obtain ⟨a, b, rfl, rfl, hp, h⟩ := h
  refine ws_rho (by fail "rho") ?_
  have ea : (if a < 0 then -a else a) = a := if_neg (by omega)
  have eb : (if b < 0 then -b else b) = b := if_neg (by omega)
  have g0 : (0 : Int) < Int.gcd a b := by
    have := Int.gcd_pos_of_ne_zero_right a (b := b) (by omega); omega
  have g1 : (Int.gcd a b : Int) ≤ b := Int.le_of_dvd hp.2.1 (Int.gcd_dvd_right ..)
  fail "dls"
  all_goals try simp only [ea, eb] at *
  all_goals first | omega | exact ⟨by omega, by omega⟩ | exact h
set_option maxHeartbeats 4000000 in
theorem fk_Share_eq {P : Program} {w : World} {K : PySem.W.Frag} {mg : Str → Option Value} {base : Heap} {cShare : Addr} (T : Txt K mg cShare) : Eqk P w K mg base (wd K cShare) 0 ["self", "other"] dsp_Share_eq 4 := by
  obtain ⟨f, fd, F, hm, hf⟩ := T.d_Share_eq.ex
  refine ⟨f, fd, fn_D2 F sc_Share_eq vi_Share_eq gl_Share_eq rfl (fun as M Ψ E h => ?_) (fun X as M Ψ E ok own hX hM h => ?_), hm, hf, F.binds fun _ _ _ _ _ _ us hl => match us, hl with | [_, _], _ => rfl⟩
  · obtain ⟨a, b, c, d, rfl, h⟩ := h; rfl
  have l0 : Lv X "self" 0 := ok.lv 0 rfl (by decide) rfl rfl
  have t0 : Ls X "self" 0 := ok.ls 0 rfl (by decide)
  have l1 : Lv X "other" 1 := ok.lv 1 rfl (by decide) rfl rfl
  have t1 : Ls X "other" 1 := ok.ls 1 rfl (by decide)
  have b0 : Bk X "isinstance" "isinstance" := ok.bk 0 rfl T.b_isinstance rfl (by decide) rfl
  have f1 := ok.cc 1 (x := "Share") (c := 0) rfl (fk_Share_init T) (by decide) rfl
  have kShare := T.cls_Share
  have sShare : IsF X.K (wd K cShare) 0 := by rw [show X.K = K from ok.kE]; exact T.isf_Share
  have jShare : PySem.W.kitOne X.K (.ref cShare) (.ref cShare) = some true := by rw [show X.K = K from ok.kE]; exact T.kc_Share
  have qShare0 : ((wd K cShare).cf 0)[0]? = some ("over" : Str) := rfl
  have qShare1 : ((wd K cShare).cf 0)[1]? = some ("under" : Str) := rfl
  have calm := ok.calm
  have wk := ok.wk
  obtain ⟨a, b, c, d, rfl, h⟩ := h
  obtain rfl : M = [] := List.eq_nil_of_length_eq_zero hM
  refine ws_rho (by fail "rho") ?_
  fail "dls"
  · rename_i hc
    rw [decide_eq_false hc] at h; exact h
  · rename_i hc
    rw [decide_eq_true hc] at h; exact h
set_option maxHeartbeats 4000000 in
theorem fk_share_from_zero {P : Program} {w : World} {K : PySem.W.Frag} {mg : Str → Option Value} {base : Heap} {cShare : Addr} (T : Txt K mg cShare) : Fk P w K mg base (wd K cShare) "share_from_zero" ["told"] 0 dsp_share_from_zero 4 := by
  obtain ⟨f, fd, F, hm⟩ := T.d_share_from_zero.ex
  refine ⟨f, fd, fn_D2 F sc_share_from_zero vi_share_from_zero gl_share_from_zero rfl (fun as M Ψ E h => ?_) (fun X as M Ψ E ok own hX hM h => ?_), hm, F.kp, F.binds fun _ _ _ _ _ _ us hl => match us, hl with | [_], _ => rfl⟩
  · obtain ⟨a, b, rfl, hp, h⟩ := h; rfl
  have l0 : Lv X "told" 0 := ok.lv 0 rfl (by decide) rfl rfl
  have t0 : Ls X "told" 0 := ok.ls 0 rfl (by decide)
  have b0 : Bk X "isinstance" "isinstance" := ok.bk 0 rfl T.b_isinstance rfl (by decide) rfl
  have f1 := ok.cc 1 (x := "Share") (c := 0) rfl (fk_Share_init T) (by decide) rfl
  have kShare := T.cls_Share
  have sShare : IsF X.K (wd K cShare) 0 := by rw [show X.K = K from ok.kE]; exact T.isf_Share
  have jShare : PySem.W.kitOne X.K (.ref cShare) (.ref cShare) = some true := by rw [show X.K = K from ok.kE]; exact T.kc_Share
  have qShare0 : ((wd K cShare).cf 0)[0]? = some ("over" : Str) := rfl
  have qShare1 : ((wd K cShare).cf 0)[1]? = some ("under" : Str) := rfl
  have calm := ok.calm
  have wk := ok.wk
  obtain ⟨a, b, rfl, hp, h⟩ := h
  obtain rfl : M = [] := List.eq_nil_of_length_eq_zero hM
  refine ws_rho (by fail "rho") ?_
  fail "dls"
  rw [decide_eq_true hp]; exact h
set_option maxHeartbeats 4000000 in
theorem fk_share_to_one {P : Program} {w : World} {K : PySem.W.Frag} {mg : Str → Option Value} {base : Heap} {cShare : Addr} (T : Txt K mg cShare) : Fk P w K mg base (wd K cShare) "share_to_one" ["told"] 0 dsp_share_to_one 5 := by
  obtain ⟨f, fd, F, hm⟩ := T.d_share_to_one.ex
  refine ⟨f, fd, fn_D2 F sc_share_to_one vi_share_to_one gl_share_to_one rfl (fun as M Ψ E h => ?_) (fun X as M Ψ E ok own hX hM h => ?_), hm, F.kp, F.binds fun _ _ _ _ _ _ us hl => match us, hl with | [_], _ => rfl⟩
  · obtain ⟨a, b, rfl, hp, h⟩ := h; rfl
  have l0 : Lv X "told" 0 := ok.lv 0 rfl (by decide) rfl rfl
  have t0 : Ls X "told" 0 := ok.ls 0 rfl (by decide)
  have f0 := ok.fc 0 (x := "share_from_zero") rfl (fk_share_from_zero T) (by decide) rfl
  have kShare := T.cls_Share
  have sShare : IsF X.K (wd K cShare) 0 := by rw [show X.K = K from ok.kE]; exact T.isf_Share
  have jShare : PySem.W.kitOne X.K (.ref cShare) (.ref cShare) = some true := by rw [show X.K = K from ok.kE]; exact T.kc_Share
  have qShare0 : ((wd K cShare).cf 0)[0]? = some ("over" : Str) := rfl
  have qShare1 : ((wd K cShare).cf 0)[1]? = some ("under" : Str) := rfl
  have calm := ok.calm
  have wk := ok.wk
  obtain ⟨a, b, rfl, hp, h⟩ := h
  obtain rfl : M = [] := List.eq_nil_of_length_eq_zero hM
  refine ws_rho (by fail "rho") ?_
  fail "dls"
  · omega
  rw [decide_eq_true hp.2]; exact h
set_option maxHeartbeats 4000000 in
theorem fk_check_number {P : Program} {w : World} {K : PySem.W.Frag} {mg : Str → Option Value} {base : Heap} {cShare : Addr} (T : Txt K mg cShare) : Fk P w K mg base (wd K cShare) "check_number" ["number", "least", "most"] 0 dsp_check_number 3 := by
  obtain ⟨f, fd, F, hm⟩ := T.d_check_number.ex
  refine ⟨f, fd, fn_D2 F sc_check_number vi_check_number gl_check_number rfl (fun as M Ψ E h => ?_) (fun X as M Ψ E ok own hX hM h => ?_), hm, F.kp, F.binds fun _ _ _ _ _ _ us hl => match us, hl with | [_, _, _], _ => rfl⟩
  · obtain ⟨a, b, c, rfl, hp, h⟩ := h; rfl
  have l0 : Lv X "number" 0 := ok.lv 0 rfl (by decide) rfl rfl
  have t0 : Ls X "number" 0 := ok.ls 0 rfl (by decide)
  have l1 : Lv X "least" 1 := ok.lv 1 rfl (by decide) rfl rfl
  have t1 : Ls X "least" 1 := ok.ls 1 rfl (by decide)
  have l2 : Lv X "most" 2 := ok.lv 2 rfl (by decide) rfl rfl
  have t2 : Ls X "most" 2 := ok.ls 2 rfl (by decide)
  have f0 := ok.fc 0 (x := "integer_within") rfl (fk_integer_within T) (by decide) rfl
  have kShare := T.cls_Share
  have sShare : IsF X.K (wd K cShare) 0 := by rw [show X.K = K from ok.kE]; exact T.isf_Share
  have jShare : PySem.W.kitOne X.K (.ref cShare) (.ref cShare) = some true := by rw [show X.K = K from ok.kE]; exact T.kc_Share
  have qShare0 : ((wd K cShare).cf 0)[0]? = some ("over" : Str) := rfl
  have qShare1 : ((wd K cShare).cf 0)[1]? = some ("under" : Str) := rfl
  have calm := ok.calm
  have wk := ok.wk
  obtain ⟨a, b, c, rfl, hp, h⟩ := h
  obtain rfl : M = [] := List.eq_nil_of_length_eq_zero hM
  refine ws_rho (by fail "rho") ?_
  fail "dls"
  · exact hp
  exact h
set_option maxHeartbeats 4000000 in
theorem fk_check_part {P : Program} {w : World} {K : PySem.W.Frag} {mg : Str → Option Value} {base : Heap} {cShare : Addr} (T : Txt K mg cShare) : Fk P w K mg base (wd K cShare) "check_part" ["share"] 0 dsp_check_part 6 := by
  obtain ⟨f, fd, F, hm⟩ := T.d_check_part.ex
  refine ⟨f, fd, fn_D2 F sc_check_part vi_check_part gl_check_part rfl (fun as M Ψ E h => ?_) (fun X as M Ψ E ok own hX hM h => ?_), hm, F.kp, F.binds fun _ _ _ _ _ _ us hl => match us, hl with | [_], _ => rfl⟩
  · obtain ⟨a, b, rfl, hp, h⟩ := h; rfl
  have l0 : Lv X "share" 0 := ok.lv 0 rfl (by decide) rfl rfl
  have t0 : Ls X "share" 0 := ok.ls 0 rfl (by decide)
  have f0 := ok.fc 0 (x := "share_to_one") rfl (fk_share_to_one T) (by decide) rfl
  have kShare := T.cls_Share
  have sShare : IsF X.K (wd K cShare) 0 := by rw [show X.K = K from ok.kE]; exact T.isf_Share
  have jShare : PySem.W.kitOne X.K (.ref cShare) (.ref cShare) = some true := by rw [show X.K = K from ok.kE]; exact T.kc_Share
  have qShare0 : ((wd K cShare).cf 0)[0]? = some ("over" : Str) := rfl
  have qShare1 : ((wd K cShare).cf 0)[1]? = some ("under" : Str) := rfl
  have calm := ok.calm
  have wk := ok.wk
  obtain ⟨a, b, rfl, hp, h⟩ := h
  obtain rfl : M = [] := List.eq_nil_of_length_eq_zero hM
  refine ws_rho (by fail "rho") ?_
  fail "dls"
  · exact hp
  exact h
set_option maxHeartbeats 4000000 in
theorem fk__digit_behind {P : Program} {w : World} {K : PySem.W.Frag} {mg : Str → Option Value} {base : Heap} {cShare : Addr} (T : Txt K mg cShare) : Fk P w K mg base (wd K cShare) "_digit_behind" ["rest", "under"] 0 dsp__digit_behind 1 := by
  obtain ⟨f, fd, F, hm⟩ := T.d__digit_behind.ex
  refine ⟨f, fd, fn_D2 F sc__digit_behind vi__digit_behind gl__digit_behind rfl (fun as M Ψ E h => ?_) (fun X as M Ψ E ok own hX hM h => ?_), hm, F.kp, F.binds fun _ _ _ _ _ _ us hl => match us, hl with | [_, _], _ => rfl⟩
  · obtain ⟨a, b, rfl, hp, h⟩ := h; rfl
  have l0 : Lv X "rest" 0 := ok.lv 0 rfl (by decide) rfl rfl
  have t0 : Ls X "rest" 0 := ok.ls 0 rfl (by decide)
  have l1 : Lv X "under" 1 := ok.lv 1 rfl (by decide) rfl rfl
  have t1 : Ls X "under" 1 := ok.ls 1 rfl (by decide)
  have b0 : Bk X "divmod" "divmod" := ok.bk 0 rfl T.b_divmod rfl (by decide) rfl
  have kShare := T.cls_Share
  have sShare : IsF X.K (wd K cShare) 0 := by rw [show X.K = K from ok.kE]; exact T.isf_Share
  have jShare : PySem.W.kitOne X.K (.ref cShare) (.ref cShare) = some true := by rw [show X.K = K from ok.kE]; exact T.kc_Share
  have qShare0 : ((wd K cShare).cf 0)[0]? = some ("over" : Str) := rfl
  have qShare1 : ((wd K cShare).cf 0)[1]? = some ("under" : Str) := rfl
  have calm := ok.calm
  have wk := ok.wk
  obtain ⟨a, b, rfl, hp, h⟩ := h
  obtain rfl : M = [] := List.eq_nil_of_length_eq_zero hM
  refine ws_rho (by fail "rho") ?_
  fail "dls"
  · exact .inl ⟨by decide, by decide⟩
  · exact ⟨by omega, by omega⟩
  · exact h
set_option maxHeartbeats 4000000 in
theorem fk__check_below_one {P : Program} {w : World} {K : PySem.W.Frag} {mg : Str → Option Value} {base : Heap} {cShare : Addr} (T : Txt K mg cShare) : Fk P w K mg base (wd K cShare) "_check_below_one" ["share"] 0 dsp__check_below_one 7 := by
  obtain ⟨f, fd, F, hm⟩ := T.d__check_below_one.ex
  refine ⟨f, fd, fn_D2 F sc__check_below_one vi__check_below_one gl__check_below_one rfl (fun as M Ψ E h => ?_) (fun X as M Ψ E ok own hX hM h => ?_), hm, F.kp, F.binds fun _ _ _ _ _ _ us hl => match us, hl with | [_], _ => rfl⟩
  · obtain ⟨a, b, rfl, hp, h⟩ := h; rfl
  have l0 : Lv X "share" 0 := ok.lv 0 rfl (by decide) rfl rfl
  have t0 : Ls X "share" 0 := ok.ls 0 rfl (by decide)
  have f0 := ok.fc 0 (x := "check_part") rfl (fk_check_part T) (by decide) rfl
  have f1 := ok.cc 1 (x := "Share") (c := 0) rfl (fk_Share_init T) (by decide) rfl
  have kShare := T.cls_Share
  have sShare : IsF X.K (wd K cShare) 0 := by rw [show X.K = K from ok.kE]; exact T.isf_Share
  have jShare : PySem.W.kitOne X.K (.ref cShare) (.ref cShare) = some true := by rw [show X.K = K from ok.kE]; exact T.kc_Share
  have qShare0 : ((wd K cShare).cf 0)[0]? = some ("over" : Str) := rfl
  have qShare1 : ((wd K cShare).cf 0)[1]? = some ("under" : Str) := rfl
  have e_Share_eq := fk_Share_eq (P := P) (w := w) (base := base) T
  have calm := ok.calm
  have wk := ok.wk
  obtain ⟨a, b, rfl, hp, h⟩ := h
  obtain rfl : M = [] := List.eq_nil_of_length_eq_zero hM
  refine ws_rho (by fail "rho") ?_
  fail "dls"
  · omega
  · omega
  · rename_i hc
    exfalso
    simp only [Bool.and_eq_true, decide_eq_true_eq] at hc
    have e1 : (1 : Int) / (Int.gcd 1 1 : Int) = 1 := by decide
    omega
  · exact h
/-- the rests of a division by halves -/
def rst (o u : Int) : Nat → Int
  | 0 => o
  | n + 1 => 2 * rst o u n % u
theorem rst_pos {o u : Int} (h : 0 ≤ o ∧ o < u) : ∀ n, 0 ≤ rst o u n ∧ rst o u n < u
  | 0 => h
  | n + 1 => ⟨Int.emod_nonneg _ (by omega), Int.emod_lt_of_pos _ (by omega)⟩
def dgl (o u : Int) (n : Nat) : List D := (List.range n).map fun k => .int (2 * rst o u k / u)
theorem dgl_succ (o u : Int) (n : Nat) : dgl o u (n + 1) = dgl o u n ++ [.int (2 * rst o u n / u)] := by
  unfold dgl; rw [List.range_succ, List.map_append]; rfl
def pks (r : Nat → Int) (n : Nat) : List Key := (List.range n).map fun k => .inl (r k)
def pvs (n : Nat) : List D := (List.range n).map fun k => .int (k : Nat)
theorem pk_none {r : Nat → Int} {n : Nat} {x : Int} (h : ∀ i, i < n → r i ≠ x) : kget (pks r n) (pvs n) (.inl x) = none := by
  unfold kget pks pvs
  rw [List.zip_map', List.find?_map, Option.map_map, Option.map_eq_none_iff, List.find?_eq_none]
  intro i hi
  simp only [Function.comp, decide_eq_true_eq]
  intro e
  exact h i (List.mem_range.mp hi) (Sum.inl.inj e)
theorem pk_some {r : Nat → Int} {n i : Nat} {x : Int} (hi : i < n) (h : r i = x) (hb : ∀ k, k < i → r k ≠ x) : kget (pks r n) (pvs n) (.inl x) = some (.int i) := by
  unfold kget pks pvs
  rw [List.zip_map', List.find?_map]
  have e : List.find? ((fun p : Key × D => decide (p.1 = Sum.inl x)) ∘ fun a => ((Sum.inl (r a) : Key), D.int (a : Nat))) (List.range n) = some i := by
    rw [List.find?_range_eq_some]
    refine ⟨by simp [h], List.mem_range.mpr hi, fun k hk => ?_⟩
    simp only [Function.comp, Bool.not_eq_true', decide_eq_false_iff_not]
    intro e
    exact hb k hk (Sum.inl.inj e)
  rw [e]; rfl
theorem pk_has {r : Nat → Int} {n : Nat} {x : Int} (h : ∀ i, i < n → r i ≠ x) : hasK (pks r n) (.inl x) = false := by
  unfold hasK pks
  rw [List.any_eq_false]
  intro k hk
  obtain ⟨i, hi, rfl⟩ := List.mem_map.mp hk
  simp only [decide_eq_true_eq]
  intro e
  exact h i (List.mem_range.mp hi) (Sum.inl.inj e)
theorem pk_put {r : Nat → Int} {n : Nat} (h : ∀ i, i < n → r i ≠ r n) : kputK (pks r n) (.inl (r n)) = pks r (n + 1) := by
  unfold kputK; rw [pk_has h, if_neg Bool.false_ne_true]; unfold pks; rw [List.range_succ, List.map_append]; rfl
theorem pv_put {r : Nat → Int} {n : Nat} (h : ∀ i, i < n → r i ≠ r n) : kputV (pks r n) (pvs n) (.inl (r n)) (D.int n) = pvs (n + 1) := by
  unfold kputV; rw [pk_has h, if_neg Bool.false_ne_true]; unfold pvs; rw [List.range_succ, List.map_append]; rfl
theorem pk_len {r : Nat → Int} {n : Nat} : (pks r n).length = n := by simp [pks]
/-- what comes again for the first time -/
structure Again (r : Nat → Int) (j n : Nat) : Prop where
  lt : j < n
  eq : r n = r j
  ne : ∀ i k, i < k → k < n → r i ≠ r k
def dsp_digits : DSp := fun as M Ψ _ => ∃ a b n : Int, as = [.d (.ob 0 [.int a, .int b]), .d (.int n)] ∧ (0 ≤ a ∧ a < b ∧ b < 1000000000 ∧ 0 ≤ n ∧ n ≤ 200) ∧ Ψ (.d (.tup (dgl a b n.toNat))) M
def dsp_period : DSp := fun as M Ψ _ => ∃ (a b : Int) (j n : Nat), as = [.d (.ob 0 [.int a, .int b])] ∧ (0 ≤ a ∧ a < b ∧ b < 1000000000 ∧ n ≤ 100000) ∧ Again (rst a b) j n ∧ Ψ (.d (.tup [.int j, .int ((n : Int) - j)])) M
section
variable {C : Dl.Ctx} {ρ : Rho} {M : Mm} {Ψ : AV → Mm → Prop}
theorem ca_dg {a b n : Int} (hp : 0 ≤ a ∧ a < b ∧ b < 1000000000 ∧ 0 ≤ n ∧ n ≤ 200) (h : Ψ (.d (.tup (dgl a b n.toNat))) M) : call0 C ρ dsp_digits [.d (.ob 0 [.int a, .int b]), .d (.int n)] M Ψ := ⟨a, b, n, rfl, hp, by show Ψ _ (M ++ []); rw [List.append_nil]; exact h⟩
theorem ca_pe {a b : Int} (j n : Nat) (hp : 0 ≤ a ∧ a < b ∧ b < 1000000000 ∧ n ≤ 100000) (hA : Again (rst a b) j n) (h : Ψ (.d (.tup [.int j, .int ((n : Int) - j)])) M) : call0 C ρ dsp_period [.d (.ob 0 [.int a, .int b])] M Ψ := ⟨a, b, j, n, rfl, hp, hA, by show Ψ _ (M ++ []); rw [List.append_nil]; exact h⟩
end
set_option maxHeartbeats 4000000 in
theorem fk_digits {P : Program} {w : World} {K : PySem.W.Frag} {mg : Str → Option Value} {base : Heap} {cShare : Addr} (T : Txt K mg cShare) : Fk P w K mg base (wd K cShare) "digits" ["share", "many"] 0 dsp_digits 8 := by
  obtain ⟨f, fd, F, hm⟩ := T.d_digits.ex
  refine ⟨f, fd, fn_D2 F sc_digits vi_digits gl_digits rfl (fun as M Ψ E h => ?_) (fun X as M Ψ E ok own hX hM h => ?_), hm, F.kp, F.binds fun _ _ _ _ _ _ us hl => match us, hl with | [_, _], _ => rfl⟩
  · obtain ⟨a, b, n, rfl, hp, h⟩ := h; rfl
  have l0 : Lv X "share" 0 := ok.lv 0 rfl (by decide) rfl rfl
  have t0 : Ls X "share" 0 := ok.ls 0 rfl (by decide)
  have l1 : Lv X "many" 1 := ok.lv 1 rfl (by decide) rfl rfl
  have t1 : Ls X "many" 1 := ok.ls 1 rfl (by decide)
  have l2 : Lv X "found" 2 := ok.lv 2 rfl (by decide) rfl rfl
  have t2 : Ls X "found" 2 := ok.ls 2 rfl (by decide)
  have l3 : Lv X "rest" 3 := ok.lv 3 rfl (by decide) rfl rfl
  have t3 : Ls X "rest" 3 := ok.ls 3 rfl (by decide)
  have l4 : Lv X "_" 4 := ok.lv 4 rfl (by decide) rfl rfl
  have t4 : Ls X "_" 4 := ok.ls 4 rfl (by decide)
  have l5 : Lv X "digit" 5 := ok.lv 5 rfl (by decide) rfl rfl
  have t5 : Ls X "digit" 5 := ok.ls 5 rfl (by decide)
  have f0 := ok.fc 0 (x := "_check_below_one") rfl (fk__check_below_one T) (by decide) rfl
  have f1 := ok.fc 1 (x := "check_number") rfl (fk_check_number T) (by decide) rfl
  have i2 := ok.gi 2 (x := "COINS_AT_MOST") rfl T.i_COINS_AT_MOST rfl
  have b3 : Bt X "range" "range" := ok.bt 3 rfl T.b_range rfl (by decide) rfl
  have e3 : (g_digits)[3]? = some ("range" : Str) := rfl
  have m3 : mg "range" = none := T.b_range
  have f4 := ok.fc 4 (x := "_digit_behind") rfl (fk__digit_behind T) (by decide) rfl
  have b5 : Bt X "tuple" "tuple" := ok.bt 5 rfl T.b_tuple rfl (by decide) rfl
  have kShare := T.cls_Share
  have sShare : IsF X.K (wd K cShare) 0 := by rw [show X.K = K from ok.kE]; exact T.isf_Share
  have jShare : PySem.W.kitOne X.K (.ref cShare) (.ref cShare) = some true := by rw [show X.K = K from ok.kE]; exact T.kc_Share
  have qShare0 : ((wd K cShare).cf 0)[0]? = some ("over" : Str) := rfl
  have qShare1 : ((wd K cShare).cf 0)[1]? = some ("under" : Str) := rfl
  have calm := ok.calm
  have wk := ok.wk
  obtain ⟨a, b, n, rfl, hp, h⟩ := h
  obtain rfl : M = [] := List.eq_nil_of_length_eq_zero hM
  refine ws_rho (by fail "rho") ?_
  fail "dls"
  · omega
  · omega
  refine w1_forR ok (by fail "as") (by fail "as") own ?_
  fail "dls"
  refine ⟨by omega, fun i ρ M => ∃ x y, ρ = [some (.d (.ob 0 [.int a, .int b])), some (.d (.int n)), some (.m 0), some (.d (.int (rst a b i))), x, y] ∧ M = [.l (dgl a b i)], ⟨_, _, rfl, rfl⟩, ?_, ?_⟩
  · rintro i ρ' M' hi ⟨x, y, rfl, rfl⟩
    fail "dls"
    · exact ⟨by omega, by omega⟩
    · simp only [dgl, List.length_map, List.length_range]; omega
    · exact ⟨_, _, rfl, by rw [dgl_succ]; rfl⟩
  · rintro ρ' M' ⟨x, y, rfl, rfl⟩
    fail "dls"
    exact h
set_option maxHeartbeats 4000000 in
theorem fk_period {P : Program} {w : World} {K : PySem.W.Frag} {mg : Str → Option Value} {base : Heap} {cShare : Addr} (T : Txt K mg cShare) : Fk P w K mg base (wd K cShare) "period" ["share"] 0 dsp_period 8 := by
  obtain ⟨f, fd, F, hm⟩ := T.d_period.ex
  refine ⟨f, fd, fn_D2 F sc_period vi_period gl_period rfl (fun as M Ψ E h => ?_) (fun X as M Ψ E ok own hX hM h => ?_), hm, F.kp, F.binds fun _ _ _ _ _ _ us hl => match us, hl with | [_], _ => rfl⟩
  · obtain ⟨a, b, j, n, rfl, hp, hA, h⟩ := h; rfl
  have l0 : Lv X "share" 0 := ok.lv 0 rfl (by decide) rfl rfl
  have t0 : Ls X "share" 0 := ok.ls 0 rfl (by decide)
  have l1 : Lv X "places" 1 := ok.lv 1 rfl (by decide) rfl rfl
  have t1 : Ls X "places" 1 := ok.ls 1 rfl (by decide)
  have l2 : Lv X "rest" 2 := ok.lv 2 rfl (by decide) rfl rfl
  have t2 : Ls X "rest" 2 := ok.ls 2 rfl (by decide)
  have l3 : Lv X "_" 3 := ok.lv 3 rfl (by decide) rfl rfl
  have t3 : Ls X "_" 3 := ok.ls 3 rfl (by decide)
  have f0 := ok.fc 0 (x := "_check_below_one") rfl (fk__check_below_one T) (by decide) rfl
  have b1 : Bk X "len" "len" := ok.bk 1 rfl T.b_len rfl (by decide) rfl
  have f2 := ok.fc 2 (x := "_digit_behind") rfl (fk__digit_behind T) (by decide) rfl
  have kShare := T.cls_Share
  have sShare : IsF X.K (wd K cShare) 0 := by rw [show X.K = K from ok.kE]; exact T.isf_Share
  have jShare : PySem.W.kitOne X.K (.ref cShare) (.ref cShare) = some true := by rw [show X.K = K from ok.kE]; exact T.kc_Share
  have qShare0 : ((wd K cShare).cf 0)[0]? = some ("over" : Str) := rfl
  have qShare1 : ((wd K cShare).cf 0)[1]? = some ("under" : Str) := rfl
  have calm := ok.calm
  have wk := ok.wk
  obtain ⟨a, b, j, n, rfl, hp, hA, h⟩ := h
  obtain rfl : M = [] := List.eq_nil_of_length_eq_zero hM
  refine ws_rho (by fail "rho") ?_
  fail "dls"
  · omega
  refine w1_while own (fun m ρ M => ∃ (i : Nat) (x : Option AV), m = n - i ∧ i ≤ n ∧ ρ = [some (.d (.ob 0 [.int a, .int b])), some (.m 0), some (.d (.int (rst a b i))), x] ∧ M = [.k (pks (rst a b) i) (pvs i)]) _ ⟨0, _, rfl, Nat.zero_le _, rfl, rfl⟩ ?_
  rintro m ρ' M' ⟨i, x, rfl, hi, rfl, rfl⟩
  fail "dls"
  · rw [pk_len]; omega
  · exact ⟨by omega, by omega⟩
  · rename_i hc
    have hn : ∀ k, k < i → rst a b k ≠ rst a b i := fun k hk e => by
      rw [pk_some hk e fun q hq e2 => hA.ne q k hq (by omega) (e2.trans e.symm)] at hc
      cases hc
    have hin : i < n := by
      rcases Nat.lt_or_ge i n with q | q
      · exact q
      · have : i = n := by omega
        subst this
        exact absurd hA.eq.symm (hn j hA.lt)
    exact ⟨n - (i + 1), by omega, i + 1, _, rfl, by omega, rfl, by rw [pk_len, pk_put hn, pv_put hn]⟩
  · rename_i hc
    have hk : ∃ k, k < i ∧ rst a b k = rst a b i := Classical.byContradiction fun z => by
      rw [pk_none fun k hk e => z ⟨k, hk, e⟩] at hc
      cases hc
    obtain ⟨k, hk, e⟩ := hk
    have hin : i = n := by
      rcases Nat.lt_or_ge i n with q | q
      · exact absurd e (hA.ne k i hk q)
      · omega
    subst hin
    have hg : kget (pks (rst a b) i) (pvs i) (.inl (rst a b i)) = some (.int (j : Nat)) := pk_some hA.lt hA.eq.symm (fun k hk e => hA.ne k j hk hA.lt (e.trans hA.eq))
    refine wi_dict ok rfl rfl hg ?_
    fail "dls"
    refine wi_dict ok rfl rfl hg ?_
    fail "dls"
    rw [pk_len]
    exact h
theorem half_le {a b : Int} (h0 : 0 < b) (h : b < a) : 2 * (a % b) ≤ a := by
  have h1 := Int.emod_lt_of_pos a h0
  have e := Int.emod_add_mul_ediv a b
  have q : 1 ≤ a / b := Int.le_ediv_of_mul_le h0 (by omega)
  have h2 : b * 1 ≤ b * (a / b) := Int.mul_le_mul_of_nonneg_left q (by omega)
  omega
theorem gcd_step {a b P : Int} {i : Nat} (h0 : 0 < b) (h : b < a) (hP : a * b * 2 ^ i ≤ P) : b * (a % b) * 2 ^ (i + 1) ≤ P := by
  refine Int.le_trans ?_ hP
  have t0 : (0 : Int) ≤ 2 ^ i := Int.pow_nonneg (by decide)
  rw [Int.pow_succ, show b * (a % b) * (2 ^ i * 2) = (b * (2 * (a % b))) * 2 ^ i from by
    rw [Int.mul_comm (2 ^ i) 2, ← Int.mul_assoc, Int.mul_assoc b, Int.mul_comm (a % b) 2], Int.mul_comm a b]
  exact Int.mul_le_mul_of_nonneg_right (Int.mul_le_mul_of_nonneg_left (half_le h0 h) (by omega)) t0
theorem gcd_first {a b : Int} (ha : 0 ≤ a) (h0 : 0 < b) : b * (a % b) * 2 ^ 0 ≤ a * b := by
  rw [Int.pow_zero, Int.mul_one, Int.mul_comm a b]
  refine Int.mul_le_mul_of_nonneg_left ?_ (by omega)
  have e := Int.emod_add_mul_ediv a b
  have q : 0 ≤ b * (a / b) := Int.mul_nonneg (by omega) (Int.ediv_nonneg ha (by omega))
  omega
theorem bits_lt {a : Int} (h : 0 ≤ a) : a < 2 ^ (Builtin.Int.intBits a) := by
  obtain ⟨n, rfl⟩ := Int.eq_ofNat_of_zero_le h
  unfold Builtin.Int.intBits
  by_cases hn : n = 0
  · subst hn; decide
  · rw [if_neg (by simpa using hn)]
    have : n < 2 ^ (n.log2 + 1) := Nat.lt_log2_self
    exact_mod_cast this
theorem bits_le {a : Int} (h : 0 ≤ a) (h2 : a < 1000000000) : Builtin.Int.intBits a ≤ 30 := by
  obtain ⟨n, rfl⟩ := Int.eq_ofNat_of_zero_le h
  unfold Builtin.Int.intBits
  by_cases hn : n = 0
  · subst hn; decide
  · rw [if_neg (by simpa using hn)]
    have : n.log2 < 30 := (Nat.log2_lt hn).mpr (by omega)
    exact this
theorem gcd_end {a b x y : Int} {p q : Nat} (hx : 0 ≤ x) (hy : x < 2 ^ p) (hb : 0 ≤ y) (hy2 : y < 2 ^ q) (h0 : 0 ≤ b) (hab : b < a) (h : a * b * 2 ^ (2 * (p + q) + 3) ≤ x * y) : b = 0 := by
  rcases Int.lt_or_le 0 b with z | z
  · exfalso
    have t0 : (0 : Int) < 2 ^ (2 * (p + q) + 3) := Int.pow_pos (by decide)
    have h1 : 1 ≤ a * b := Int.mul_pos (by omega) z
    have h2 : 1 * 2 ^ (2 * (p + q) + 3) ≤ a * b * 2 ^ (2 * (p + q) + 3) := Int.mul_le_mul_of_nonneg_right h1 (by omega)
    have h3 : x * y ≤ 2 ^ p * 2 ^ q := Int.mul_le_mul (by omega) (by omega) hb (Int.pow_nonneg (by decide))
    have h4 : (2 : Int) ^ p * 2 ^ q < 2 ^ (2 * (p + q) + 3) := by
      rw [← Int.pow_add]
      exact_mod_cast Nat.pow_lt_pow_right (by decide : 1 < 2) (by omega : p + q < 2 * (p + q) + 3)
    omega
  · omega
def dsp__law_gcd : DSp := fun as M Ψ _ => ∃ a b : Int, as = [.d (.int a), .d (.int b)] ∧ (0 ≤ a ∧ a < 1000000000 ∧ 0 ≤ b ∧ b < 1000000000) ∧ Ψ (.d (.int (Int.gcd a b))) M
def dsp__law_start : DSp := fun as M Ψ _ => ∃ cs : List Int, as = [.d (.lst (cs.map .int))] ∧ Ψ (.m 0) [.l [.lst (cs.map .int), .int 0, .int 0, .int 0, .int 7]]
def Sp4 (p a c : Int) : Prop := 0 ≤ p ∧ 0 ≤ a ∧ 0 ≤ c
abbrev stl (cs : List Int) (p a b c : Int) : MO := .l [.lst (cs.map .int), .int p, .int a, .int b, .int c]
def dsp__law_draw : DSp := fun as M Ψ _ => ∃ (cs : List Int) (p a b c l : Int), as = [.m 0, .d (.int l)] ∧ M = [stl cs p a b c] ∧ (Sp4 p a c ∧ l < 1000000000) ∧ ∀ r p' a' b' c', 0 ≤ r ∧ (r < 1 ∨ r < l) → Sp4 p' a' c' → Ψ (.d (.int r)) [stl cs p' a' b' c']
def dsp__law_share : DSp := fun as M Ψ _ => ∃ (cs : List Int) (p a b c : Int), as = [.m 0] ∧ M = [stl cs p a b c] ∧ Sp4 p a c ∧ ∀ o u p' a' b' c', 0 ≤ o ∧ o < u ∧ u ≤ 1000 → Sp4 p' a' c' → Ψ (.d (.lst [.int o, .int u])) [stl cs p' a' b' c']
section
variable {C : Dl.Ctx} {ρ : Rho} {M : Mm} {Ψ : AV → Mm → Prop}
theorem ca_lg {a b : Int} (hp : 0 ≤ a ∧ a < 1000000000 ∧ 0 ≤ b ∧ b < 1000000000) (h : Ψ (.d (.int (Int.gcd a b))) M) : call0 C ρ dsp__law_gcd [.d (.int a), .d (.int b)] M Ψ := ⟨a, b, rfl, hp, by show Ψ _ (M ++ []); rw [List.append_nil]; exact h⟩
theorem ca_dr {cs : List Int} {p a b c l : Int} {R : Mm} (hs : Sp4 p a c) (hl : l < 1000000000) (h : ∀ r p' a' b' c', 0 ≤ r ∧ (r < 1 ∨ r < l) → Sp4 p' a' c' → Ψ (.d (.int r)) (stl cs p' a' b' c' :: R)) :
    only1 0 [.m 0, .d (.int l)] = true ∧ call1 C ρ 0 dsp__law_draw [.m 0, .d (.int l)] (stl cs p a b c :: R) Ψ :=
  ⟨rfl, _, rfl, cs, p, a, b, c, l, rfl, rfl, ⟨hs, hl⟩, fun r p' a' b' c' h1 h2 => ⟨_, [], rfl, by show Ψ _ (stl cs p' a' b' c' :: R ++ []); rw [List.append_nil]; exact h r p' a' b' c' h1 h2⟩⟩
theorem ca_ls {cs : List Int} {p a b c : Int} {R : Mm} (hs : Sp4 p a c) (h : ∀ o u p' a' b' c', 0 ≤ o ∧ o < u ∧ u ≤ 1000 → Sp4 p' a' c' → Ψ (.d (.lst [.int o, .int u])) (stl cs p' a' b' c' :: R)) :
    only1 0 [.m 0] = true ∧ call1 C ρ 0 dsp__law_share [.m 0] (stl cs p a b c :: R) Ψ :=
  ⟨rfl, _, rfl, cs, p, a, b, c, rfl, rfl, hs, fun o u p' a' b' c' h1 h2 => ⟨_, [], rfl, by show Ψ _ (stl cs p' a' b' c' :: R ++ []); rw [List.append_nil]; exact h o u p' a' b' c' h1 h2⟩⟩
end
theorem at_map {cs : List Int} {p : Int} (h0 : 0 ≤ p) (h : p < ((cs.map D.int).length : Nat)) : ∃ x, atI (cs.map D.int) p = some (.int x) := by
  have h' : p < ((cs.length : Nat) : Int) := by simpa using h
  obtain ⟨n, rfl⟩ := Int.eq_ofNat_of_zero_le h0
  have hn : n < cs.length := by omega
  refine ⟨cs[n], ?_⟩
  unfold atI ixN
  rw [if_pos h0, if_pos h]
  simp [hn]
theorem dr_c {L l : Int} (hL : 1 ≤ L ∧ (L = 1 ∨ L = l)) (x : Int) : 0 ≤ x % L ∧ (x % L < 1 ∨ x % L < l) := by
  have h1 := Int.emod_nonneg x (show L ≠ 0 by omega)
  have h2 := Int.emod_lt_of_pos x (show 0 < L by omega)
  rcases hL.2 with rfl | rfl
  · exact ⟨h1, .inl h2⟩
  · exact ⟨h1, .inr h2⟩
local macro_rules | `(tactic| fail "dl_u") => `(tactic| with_reducible refine Lw.ca_dg ?_ ?_)
local macro_rules | `(tactic| fail "dl_u") => `(tactic| with_reducible refine Lw.ca_lg ?_ ?_)
local macro_rules | `(tactic| fail "dl_u") => `(tactic| with_reducible refine Lw.ca_dr (by assumption) (by omega) fun r p a b c hr hs => ?_)
local macro_rules | `(tactic| fail "dl_u") => `(tactic| with_reducible refine Lw.ca_ls (by assumption) fun o u p a b c hr hs => ?_)
set_option maxHeartbeats 4000000 in
theorem fk__law_gcd {P : Program} {w : World} {K : PySem.W.Frag} {mg : Str → Option Value} {base : Heap} {cShare : Addr} (T : Txt K mg cShare) : Fk P w K mg base (wd K cShare) "_law_gcd" ["one", "other"] 0 dsp__law_gcd 1 := by
  obtain ⟨f, fd, F, hm⟩ := T.d__law_gcd.ex
  refine ⟨f, fd, fn_D2 F sc__law_gcd vi__law_gcd gl__law_gcd rfl (fun as M Ψ E h => ?_) (fun X as M Ψ E ok own hX hM h => ?_), hm, F.kp, F.binds fun _ _ _ _ _ _ us hl => match us, hl with | [_, _], _ => rfl⟩
  · obtain ⟨a, b, rfl, hp, h⟩ := h; rfl
  have l0 : Lv X "one" 0 := ok.lv 0 rfl (by decide) rfl rfl
  have t0 : Ls X "one" 0 := ok.ls 0 rfl (by decide)
  have l1 : Lv X "other" 1 := ok.lv 1 rfl (by decide) rfl rfl
  have t1 : Ls X "other" 1 := ok.ls 1 rfl (by decide)
  have l2 : Lv X "k" 2 := ok.lv 2 rfl (by decide) rfl rfl
  have t2 : Ls X "k" 2 := ok.ls 2 rfl (by decide)
  have b0 : Bt X "range" "range" := ok.bt 0 rfl T.b_range rfl (by decide) rfl
  have e0 : (g__law_gcd)[0]? = some ("range" : Str) := rfl
  have m0 : mg "range" = none := T.b_range
  have b1 : Bt X "int" "int" := ok.bt 1 rfl T.b_int rfl (by decide) rfl
  have kShare := T.cls_Share
  have sShare : IsF X.K (wd K cShare) 0 := by rw [show X.K = K from ok.kE]; exact T.isf_Share
  have jShare : PySem.W.kitOne X.K (.ref cShare) (.ref cShare) = some true := by rw [show X.K = K from ok.kE]; exact T.kc_Share
  have qShare0 : ((wd K cShare).cf 0)[0]? = some ("over" : Str) := rfl
  have qShare1 : ((wd K cShare).cf 0)[1]? = some ("under" : Str) := rfl
  have calm := ok.calm
  have wk := ok.wk
  obtain ⟨a, b, rfl, hp, h⟩ := h
  obtain rfl : M = [] := List.eq_nil_of_length_eq_zero hM
  refine ws_rho (by fail "rho") ?_
  have ba := bits_le hp.1 hp.2.1
  have bb := bits_le hp.2.2.1 hp.2.2.2
  refine ws_cons (w1_forR ok (by fail "as") (by fail "as") own ?_)
  fail "dls"
  · exact .inl ⟨by decide, by decide⟩
  refine ⟨by omega, fun i ρ M => ∃ x y k, ρ = [some (.d (.int x)), some (.d (.int y)), k] ∧ M = [] ∧ 0 ≤ x ∧ 0 ≤ y ∧ Int.gcd x y = Int.gcd a b ∧ (i = 0 ∧ x = a ∧ y = b ∨ 0 < i ∧ y < x ∧ x * y * 2 ^ (i - 1) ≤ a * b), ⟨a, b, none, rfl, rfl, hp.1, hp.2.2.1, rfl, .inl ⟨rfl, rfl, rfl⟩⟩, ?_, ?_⟩
  · rintro i ρ' M' hi ⟨x, y, k, rfl, rfl, h0, h1, h2, h3⟩
    fail "dls"
    · rename_i hc
      subst hc
      have e : ((Int.gcd a b : Nat) : Int) = x := by rw [← h2, Int.gcd_zero_right]; omega
      rw [e] at h; exact h
    · omega
    · have hy : 0 < y := by omega
      refine ⟨y, x % y, _, rfl, rfl, h1, Int.emod_nonneg _ (by omega), by rw [← h2]; exact gcd_em h0 hy, .inr ⟨by omega, Int.emod_lt_of_pos _ hy, ?_⟩⟩
      rcases h3 with ⟨rfl, rfl, rfl⟩ | ⟨q0, q1, q2⟩
      · exact gcd_first h0 hy
      · have := gcd_step hy q1 q2
        rwa [show i - 1 + 1 = i + 1 - 1 from by omega] at this
  · rintro ρ' M' ⟨x, y, k, rfl, rfl, h0, h1, h2, h3⟩
    rcases h3 with ⟨q0, _⟩ | ⟨q0, q1, q2⟩
    · omega
    have e0 : y = 0 := gcd_end (p := Builtin.Int.intBits a) (q := Builtin.Int.intBits b) hp.1 (bits_lt hp.1) hp.2.2.1 (bits_lt hp.2.2.1) h1 q1 (by
      refine Eq.mp ?_ q2
      congr 3)
    subst e0
    fail "dls"
    have e : ((Int.gcd a b : Nat) : Int) = x := by rw [← h2, Int.gcd_zero_right]; omega
    rw [e] at h; exact h
set_option maxHeartbeats 4000000 in
theorem fk__law_start {P : Program} {w : World} {K : PySem.W.Frag} {mg : Str → Option Value} {base : Heap} {cShare : Addr} (T : Txt K mg cShare) : Fk P w K mg base (wd K cShare) "_law_start" ["script"] 0 dsp__law_start 1 := by
  obtain ⟨f, fd, F, hm⟩ := T.d__law_start.ex
  refine ⟨f, fd, fn_D2 F sc__law_start vi__law_start gl__law_start rfl (fun as M Ψ E h => ?_) (fun X as M Ψ E ok own hX hM h => ?_), hm, F.kp, F.binds fun _ _ _ _ _ _ us hl => match us, hl with | [_], _ => rfl⟩
  · obtain ⟨cs, rfl, h⟩ := h; rfl
  have l0 : Lv X "script" 0 := ok.lv 0 rfl (by decide) rfl rfl
  have t0 : Ls X "script" 0 := ok.ls 0 rfl (by decide)
  have b0 : Bt X "list" "list" := ok.bt 0 rfl T.b_list rfl (by decide) rfl
  have kShare := T.cls_Share
  have sShare : IsF X.K (wd K cShare) 0 := by rw [show X.K = K from ok.kE]; exact T.isf_Share
  have jShare : PySem.W.kitOne X.K (.ref cShare) (.ref cShare) = some true := by rw [show X.K = K from ok.kE]; exact T.kc_Share
  have qShare0 : ((wd K cShare).cf 0)[0]? = some ("over" : Str) := rfl
  have qShare1 : ((wd K cShare).cf 0)[1]? = some ("under" : Str) := rfl
  have calm := ok.calm
  have wk := ok.wk
  obtain ⟨cs, rfl, h⟩ := h
  obtain rfl : M = [] := List.eq_nil_of_length_eq_zero hM
  refine ws_rho (by fail "rho") ?_
  refine ws_one (w1_retK (we_lst (wa_cons (we_clo ?_))))
  fail "dls"
  exact h
set_option maxHeartbeats 4000000 in
theorem fk__law_draw {P : Program} {w : World} {K : PySem.W.Frag} {mg : Str → Option Value} {base : Heap} {cShare : Addr} (T : Txt K mg cShare) : Fk P w K mg base (wd K cShare) "_law_draw" ["state", "limit"] 1 dsp__law_draw 1 := by
  obtain ⟨f, fd, F, hm⟩ := T.d__law_draw.ex
  refine ⟨f, fd, fn_D2 F sc__law_draw vi__law_draw gl__law_draw rfl (fun as M Ψ E h => ?_) (fun X as M Ψ E ok own hX hM h => ?_), hm, F.kp, F.binds fun _ _ _ _ _ _ us hl => match us, hl with | [_, _], _ => rfl⟩
  · obtain ⟨cs, p, a, b, c, l, rfl, rfl, hp, h⟩ := h; rfl
  have l0 : Lv X "state" 0 := ok.lv 0 rfl (by decide) rfl rfl
  have t0 : Ls X "state" 0 := ok.ls 0 rfl (by decide)
  have l1 : Lv X "limit" 1 := ok.lv 1 rfl (by decide) rfl rfl
  have t1 : Ls X "limit" 1 := ok.ls 1 rfl (by decide)
  have l2 : Lv X "cell" 2 := ok.lv 2 rfl (by decide) rfl rfl
  have t2 : Ls X "cell" 2 := ok.ls 2 rfl (by decide)
  have l3 : Lv X "got" 3 := ok.lv 3 rfl (by decide) rfl rfl
  have t3 : Ls X "got" 3 := ok.ls 3 rfl (by decide)
  have b0 : Bk X "max" "max" := ok.bk 0 rfl T.b_max rfl (by decide) rfl
  have b1 : Bk X "len" "len" := ok.bk 1 rfl T.b_len rfl (by decide) rfl
  have b2 : Bk X "abs" "abs" := ok.bk 2 rfl T.b_abs rfl (by decide) rfl
  have b3 : Bt X "int" "int" := ok.bt 3 rfl T.b_int rfl (by decide) rfl
  have kShare := T.cls_Share
  have sShare : IsF X.K (wd K cShare) 0 := by rw [show X.K = K from ok.kE]; exact T.isf_Share
  have jShare : PySem.W.kitOne X.K (.ref cShare) (.ref cShare) = some true := by rw [show X.K = K from ok.kE]; exact T.kc_Share
  have qShare0 : ((wd K cShare).cf 0)[0]? = some ("over" : Str) := rfl
  have qShare1 : ((wd K cShare).cf 0)[1]? = some ("under" : Str) := rfl
  have calm := ok.calm
  have wk := ok.wk
  obtain ⟨cs, p, a, b, c, l, rfl, rfl, hp, h⟩ := h
  refine ws_rho (by fail "rho") ?_
  obtain ⟨⟨hs1, hs2, hs4⟩, hl⟩ := hp
  refine ws_cons (w1_s (by fail "as") (we_b (by fail "as") (wa_cons (we_int (wa_cons (we_v (by fail "as") (by rfl) (wa_nil (wc_max (by fail "as") ?_))))))))
  have hL : 1 ≤ (if l > 1 then l else 1) ∧ ((if l > 1 then l else 1) = 1 ∨ (if l > 1 then l else 1) = l) := by split <;> omega
  generalize (if l > 1 then l else 1) = L at hL ⊢
  fail "nrm"
  refine ws_join (fun ρ M => ∃ p a b c x, ρ = [some (.m 0), some (.d (.int L)), x, none] ∧ M = [stl cs p a b c] ∧ Sp4 p a c) (w1_if ?_) ?_
  · fail "dls"
    all_goals try (obtain ⟨x, hx⟩ := at_map hs1 (by assumption); refine wi_seq wk rfl hx ?_; (have hx0 : 0 ≤ (if x < 0 then -x else x) := by split <;> omega); fail "dls")
    all_goals first | exact ⟨_, _, _, _, _, rfl, rfl, by omega, by omega, by omega⟩ | exact ⟨by decide, by decide, by decide⟩ | exact .inr ⟨by decide, by decide⟩ | decide
  · rintro ρ M ⟨p, a, b, c, x, rfl, rfl, hs1, hs2, hs4⟩
    have hd : 0 ≤ a / L := Int.ediv_nonneg hs2 (by omega)
    fail "dls"
    all_goals first | exact h _ _ _ _ _ (dr_c hL _) ⟨by omega, by omega, by omega⟩ | exact .inr ⟨by decide, by decide⟩ | exact ⟨by omega, by omega⟩ | decide | omega
theorem pow_le9 {r : Int} {k : Nat} (h : r < k + 1) : (2 : Int) ^ r.toNat ≤ 2 ^ k := by
  have : r.toNat ≤ k := by omega
  exact_mod_cast Nat.pow_le_pow_right (by decide : 0 < 2) this
theorem pow_ge1 {r : Int} : 1 ≤ (2 : Int) ^ r.toNat := Int.pow_pos (by decide)
theorem pick8 {r : Int} (h : 0 ≤ r ∧ (r < 1 ∨ r < 8)) : ∃ v, atI [D.int 2, D.int 1, D.int 997, D.int 1000, D.int 947, D.int 512, D.int 999, D.int 768] r = some (.int v) ∧ 1 ≤ v ∧ v ≤ 1000 := by
  have : r = 0 ∨ r = 1 ∨ r = 2 ∨ r = 3 ∨ r = 4 ∨ r = 5 ∨ r = 6 ∨ r = 7 := by omega
  rcases this with rfl | rfl | rfl | rfl | rfl | rfl | rfl | rfl
  · exact ⟨2, rfl, by decide, by decide⟩
  · exact ⟨1, rfl, by decide, by decide⟩
  · exact ⟨997, rfl, by decide, by decide⟩
  · exact ⟨1000, rfl, by decide, by decide⟩
  · exact ⟨947, rfl, by decide, by decide⟩
  · exact ⟨512, rfl, by decide, by decide⟩
  · exact ⟨999, rfl, by decide, by decide⟩
  · exact ⟨768, rfl, by decide, by decide⟩
abbrev shJ (cs : List Int) (kd : Int) : Rho → Mm → Prop := fun ρ M => ∃ u p a b c R, ρ = [some (.m 0), some (.d (.int kd)), some (.d (.int u)), none] ∧ M = stl cs p a b c :: R ∧ Sp4 p a c ∧ 1 ≤ u ∧ u ≤ 1000
theorem clo_last {x : MO} {R : Mm} {ds : List D} {Q : AV → Mm → Prop} (h : Q (.d (.lst ds)) [x]) : Clo 1 (.m (x :: R).length) (x :: R ++ [.l ds]) Q := clo_l (by simp) (by simp) h
set_option maxHeartbeats 4000000 in
theorem fk__law_share {P : Program} {w : World} {K : PySem.W.Frag} {mg : Str → Option Value} {base : Heap} {cShare : Addr} (T : Txt K mg cShare) : Fk P w K mg base (wd K cShare) "_law_share" ["state"] 1 dsp__law_share 2 := by
  obtain ⟨f, fd, F, hm⟩ := T.d__law_share.ex
  refine ⟨f, fd, fn_D2 F sc__law_share vi__law_share gl__law_share rfl (fun as M Ψ E h => ?_) (fun X as M Ψ E ok own hX hM h => ?_), hm, F.kp, F.binds fun _ _ _ _ _ _ us hl => match us, hl with | [_], _ => rfl⟩
  · obtain ⟨cs, p, a, b, c, rfl, rfl, hp, h⟩ := h; rfl
  have l0 : Lv X "state" 0 := ok.lv 0 rfl (by decide) rfl rfl
  have t0 : Ls X "state" 0 := ok.ls 0 rfl (by decide)
  have l1 : Lv X "kind" 1 := ok.lv 1 rfl (by decide) rfl rfl
  have t1 : Ls X "kind" 1 := ok.ls 1 rfl (by decide)
  have l2 : Lv X "under" 2 := ok.lv 2 rfl (by decide) rfl rfl
  have t2 : Ls X "under" 2 := ok.ls 2 rfl (by decide)
  have l3 : Lv X "over" 3 := ok.lv 3 rfl (by decide) rfl rfl
  have t3 : Ls X "over" 3 := ok.ls 3 rfl (by decide)
  have f0 := ok.fc 0 (x := "_law_draw") rfl (fk__law_draw T) (by decide) rfl
  have kShare := T.cls_Share
  have sShare : IsF X.K (wd K cShare) 0 := by rw [show X.K = K from ok.kE]; exact T.isf_Share
  have jShare : PySem.W.kitOne X.K (.ref cShare) (.ref cShare) = some true := by rw [show X.K = K from ok.kE]; exact T.kc_Share
  have qShare0 : ((wd K cShare).cf 0)[0]? = some ("over" : Str) := rfl
  have qShare1 : ((wd K cShare).cf 0)[1]? = some ("under" : Str) := rfl
  have calm := ok.calm
  have wk := ok.wk
  obtain ⟨cs, p, a, b, c, rfl, rfl, hp, h⟩ := h
  refine ws_rho (by fail "rho") ?_
  fail "dlj"
  rename_i kd p1 a1 b1 c1 hk hs1 u0 p2 a2 b2 c2 hu hs2
  refine ws_join (shJ cs kd) (w1_if ?_) ?_
  · fail "dls"
    · exact ⟨by omega, by omega, by decide⟩
    · rename_i r _ _ _ _ hr hs
      have := pow_le9 (r := r) (k := 9) (by omega)
      have := pow_ge1 (r := r)
      exact ⟨_, _, _, _, _, [], rfl, rfl, hs, by omega, by omega⟩
    · exact ⟨_, _, _, _, _, [], rfl, rfl, hs2, by omega, by omega⟩
  rintro ρ M ⟨u1, p3, a3, b3, c3, R3, rfl, rfl, hs3, hu1, hu2⟩
  refine ws_join (shJ cs kd) (w1_if ?_) ?_
  · fail "dls"
    · rename_i r _ _ _ _ hr hs
      exact ⟨_, _, _, _, _, R3, rfl, rfl, hs, by omega, by omega⟩
    · exact ⟨_, _, _, _, _, R3, rfl, rfl, hs3, by omega, by omega⟩
  rintro ρ M ⟨u2, p4, a4, b4, c4, R4, rfl, rfl, hs4, hu3, hu4⟩
  refine ws_join (shJ cs kd) (w1_if ?_) ?_
  · fail "dls"
    · exact .inl ⟨by decide, by decide⟩
    · exact ⟨by omega, by omega, by omega⟩
    · rename_i r1 _ _ _ _ hr1 _ r2 _ _ _ _ hr2 hs
      have h1 := pow_le9 (r := r2) (k := 5) (by omega)
      have h2 := pow_ge1 (r := r2)
      have h3 : (1 + 2 * r1) * 2 ^ r2.toNat ≤ 29 * 2 ^ r2.toNat := Int.mul_le_mul_of_nonneg_right (by omega) (by omega)
      have h4 : 0 < (1 + 2 * r1) * 2 ^ r2.toNat := Int.mul_pos (by omega) (by omega)
      exact ⟨_, _, _, _, _, R4, rfl, rfl, hs, by omega, by omega⟩
    · exact ⟨_, _, _, _, _, R4, rfl, rfl, hs4, by omega, by omega⟩
  rintro ρ M ⟨u3, p5, a5, b5, c5, R5, rfl, rfl, hs5, hu5, hu6⟩
  refine ws_join (shJ cs kd) (w1_if ?_) ?_
  · fail "dls"
    · refine ca_dr (l := 8) (R := R5 ++ [_]) hs5 (by decide) fun r p a b c hr hs => ?_
      obtain ⟨v, hv, hv1, hv2⟩ := pick8 hr
      refine wi_seq wk (seq_last (x := stl cs p a b c) (R := R5)) hv ?_
      fail "nrm"
      exact ⟨_, _, _, _, _, R5 ++ [_], rfl, rfl, hs, by omega, by omega⟩
    · exact ⟨_, _, _, _, _, R5, rfl, rfl, hs5, by omega, by omega⟩
  rintro ρ M ⟨u4, p6, a6, b6, c6, R6, rfl, rfl, hs6, hu7, hu8⟩
  fail "dls"
  all_goals (rename_i hs _; refine clo_last ?_; exact h _ _ _ _ _ _ ⟨by omega, by omega, by omega⟩ hs)
theorem rst_eq {o u : Int} (h : 0 ≤ o ∧ o < u) : ∀ k, rst o u k = o * 2 ^ k % u
  | 0 => by show o = _; rw [Int.pow_zero, Int.mul_one, Int.emod_eq_of_lt h.1 h.2]
  | k + 1 => by
    show 2 * rst o u k % u = _
    rw [rst_eq h k, Int.mul_emod, Int.emod_emod, ← Int.mul_emod, Int.pow_succ, show (2 : Int) * (o * 2 ^ k) = o * (2 ^ k * 2) from by rw [Int.mul_comm 2, Int.mul_assoc]]
theorem dig_eq {u : Int} (hu : 0 < u) (x : Int) : 2 * (x % u) / u = 2 * x / u - 2 * (x / u) := by
  have e := Int.emod_add_mul_ediv x u
  have e2 : 2 * x = 2 * (x % u) + u * (2 * (x / u)) := by
    rw [← Int.mul_assoc, Int.mul_comm u 2, Int.mul_assoc]; omega
  rw [e2, Int.add_mul_ediv_left _ _ (by omega)]; omega
theorem fl_red {o u g : Int} (hg : 0 < g) (ho : g ∣ o) (hu : g ∣ u) (k : Nat) : (o / g) * 2 ^ k / (u / g) = o * 2 ^ k / u := by
  obtain ⟨a, rfl⟩ := ho
  obtain ⟨b, rfl⟩ := hu
  rw [Int.mul_ediv_cancel_left _ (by omega), Int.mul_ediv_cancel_left _ (by omega), Int.mul_assoc, Int.mul_ediv_mul_of_pos _ _ hg]
theorem dg_fl {o u g : Int} (h : 0 ≤ o ∧ o < u) (hg : 0 < g) (ho : g ∣ o) (hu : g ∣ u) (k : Nat) : 2 * rst (o / g) (u / g) k / (u / g) = o * 2 ^ (k + 1) / u - 2 * (o * 2 ^ k / u) := by
  have h1 : 0 ≤ o / g := Int.ediv_nonneg h.1 (by omega)
  have h2 : o / g < u / g := by
    obtain ⟨a, rfl⟩ := ho
    obtain ⟨b, rfl⟩ := hu
    rw [Int.mul_ediv_cancel_left _ (by omega), Int.mul_ediv_cancel_left _ (by omega)]
    exact Int.lt_of_mul_lt_mul_left h.2 (by omega)
  rw [rst_eq ⟨h1, h2⟩, dig_eq (by omega), fl_red hg ho hu, ← fl_red hg ho hu (k + 1), Int.pow_succ, show (2 : Int) * (o / g * 2 ^ k) = o / g * (2 ^ k * 2) from by rw [Int.mul_comm 2, Int.mul_assoc]]
theorem cop2 {x : Nat} (h : x % 2 = 1) : Nat.Coprime 2 x := by
  unfold Nat.Coprime; rw [Nat.gcd_rec, h, Nat.gcd_one_left]
theorem again_nat {m n q s L : Nat} (hn : n = 2 ^ s * q) (hq : q % 2 = 1) (hc : Nat.Coprime n m) (h1 : 2 ^ L % q = 1 % q) (hmin : ∀ j, 1 ≤ j → j < L → 2 ^ j % q ≠ 1 % q) :
    m * 2 ^ (s + L) % n = m * 2 ^ s % n ∧ ∀ i k, i < k → k < s + L → m * 2 ^ i % n ≠ m * 2 ^ k % n := by
  constructor
  · have p1 : 1 ≤ 2 ^ L := Nat.one_le_two_pow
    obtain ⟨t, ht⟩ := Nat.dvd_of_mod_eq_zero (Nat.sub_mod_eq_zero_of_mod_eq h1)
    have e : 2 ^ L = 1 + q * t := by omega
    rw [Nat.pow_add, e, hn, show m * (2 ^ s * (1 + q * t)) = m * 2 ^ s + 2 ^ s * q * (m * t) from by
      rw [Nat.mul_add, Nat.mul_one, Nat.mul_add]
      congr 1
      rw [← Nat.mul_assoc (2 ^ s), Nat.mul_left_comm], Nat.add_mul_mod_self_left]
  · intro i k hik hk e
    have hd : n ∣ m * 2 ^ k - m * 2 ^ i := Nat.dvd_of_mod_eq_zero (Nat.sub_mod_eq_zero_of_mod_eq e.symm)
    have p1 : 1 ≤ 2 ^ (k - i) := Nat.one_le_two_pow
    have e2 : m * 2 ^ k - m * 2 ^ i = m * (2 ^ i * (2 ^ (k - i) - 1)) := by
      rw [Nat.mul_sub, Nat.mul_one, ← Nat.pow_add, show i + (k - i) = k from by omega, Nat.mul_sub]
    rw [e2] at hd
    have hd2 := hc.dvd_of_dvd_mul_left hd
    have odd : (2 ^ (k - i) - 1) % 2 = 1 := by
      have : 2 ^ (k - i) = 2 * 2 ^ (k - i - 1) := by rw [← Nat.pow_succ']; congr 1; omega
      omega
    have s1 : 2 ^ s ∣ 2 ^ i := by
      have z : 2 ^ s ∣ 2 ^ i * (2 ^ (k - i) - 1) := Nat.dvd_trans ⟨q, hn⟩ hd2
      exact ((cop2 odd).pow_left s).dvd_of_dvd_mul_right z
    have hs : s ≤ i := (Nat.pow_dvd_pow_iff_le_right (by decide : 1 < 2)).mp s1
    have q1 : q ∣ 2 ^ (k - i) - 1 := by
      have z : q ∣ 2 ^ i * (2 ^ (k - i) - 1) := Nat.dvd_trans ⟨2 ^ s, by rw [hn, Nat.mul_comm]⟩ hd2
      exact (((cop2 hq).pow_left i).symm).dvd_of_dvd_mul_left z
    obtain ⟨t, ht⟩ := q1
    refine hmin (k - i) (by omega) (by omega) ?_
    rw [show 2 ^ (k - i) = 1 + q * t from by omega, Nat.add_mul_mod_self_left]
/-- the order of 2 is found within 999 steps -/
def ordG (q : Nat) : Nat → Nat → Bool
  | 0, _ => false
  | f + 1, p => (2 * p % q == 1 % q) || ordG q f (2 * p % q)
theorem ord_all : ((List.range 501).all fun n => ordG (2 * n + 1) 999 (1 % (2 * n + 1))) = true := by decide +kernel
theorem ordG_ok {q : Nat} : ∀ {f i p : Nat}, p = 2 ^ i % q → ordG q f p = true → ∃ j, i < j ∧ j ≤ i + f ∧ 2 ^ j % q = 1 % q
  | 0, _, _, _, h => by cases h
  | f + 1, i, p, hp, h => by
    have e : 2 * p % q = 2 ^ (i + 1) % q := by rw [hp, Nat.mul_mod, Nat.mod_mod, ← Nat.mul_mod, Nat.pow_succ, Nat.mul_comm]
    unfold ordG at h
    rw [Bool.or_eq_true] at h
    rcases h with h | h
    · exact ⟨i + 1, by omega, by omega, by rw [← e]; simpa using h⟩
    · obtain ⟨j, h1, h2, h3⟩ := ordG_ok e h
      exact ⟨j, by omega, by omega, h3⟩
theorem ord_ex {q : Nat} (h : q % 2 = 1) (hq : q ≤ 1000) : ∃ j, 1 ≤ j ∧ j ≤ 999 ∧ 2 ^ j % q = 1 % q := by
  have z := List.all_eq_true.mp ord_all (q / 2) (List.mem_range.mpr (by omega))
  rw [show 2 * (q / 2) + 1 = q from by omega] at z
  obtain ⟨j, h1, h2, h3⟩ := ordG_ok (i := 0) (by rw [Nat.pow_zero]) z
  exact ⟨j, by omega, by omega, h3⟩
theorem again_of {o u : Int} {q : Int} {s L : Nat} (h : 0 ≤ o ∧ o < u) (hc : Int.gcd o u = 1) (hu : u = 2 ^ s * q) (hq : q % 2 = 1) (hq0 : 0 < q) (hL : 1 ≤ L) (h1 : (2 : Int) ^ L % q = 1 % q)
    (hmin : ∀ j : Nat, 1 ≤ j → j < L → (2 : Int) ^ j % q ≠ 1 % q) : Again (rst o u) s (s + L) := by
  obtain ⟨m, rfl⟩ := Int.eq_ofNat_of_zero_le h.1
  obtain ⟨n, rfl⟩ := Int.eq_ofNat_of_zero_le (show 0 ≤ u by omega)
  obtain ⟨p, rfl⟩ := Int.eq_ofNat_of_zero_le (Int.le_of_lt hq0)
  have hn : n = 2 ^ s * p := by exact_mod_cast hu
  have hcn : Nat.Coprime n m := by
    unfold Nat.Coprime; rw [Nat.gcd_comm]; exact hc
  obtain ⟨a1, a2⟩ := again_nat (m := m) (L := L) hn (by omega) hcn (by exact_mod_cast h1) (fun j h1 h2 e => hmin j h1 h2 (by exact_mod_cast e))
  refine ⟨by omega, ?_, fun i k hik hk e => a2 i k hik hk ?_⟩
  · rw [rst_eq h, rst_eq h]; exact_mod_cast a1
  · rw [rst_eq h, rst_eq h] at e; exact_mod_cast e
theorem again_per {o u : Int} {s L : Nat} (h : Again (rst o u) s (s + L)) : ∀ d, rst o u (s + d + L) = rst o u (s + d)
  | 0 => h.eq
  | d + 1 => by
    rw [show s + (d + 1) + L = (s + d + L) + 1 from by omega]
    exact congrArg (fun x => 2 * x % u) (again_per h d)
theorem gcd_red {o u : Int} (h : 0 < u) : Int.gcd (o / Int.gcd o u) (u / Int.gcd o u) = 1 := by
  have hp : 0 < Int.gcd o u := Int.gcd_pos_of_ne_zero_right _ (by omega)
  exact Int.gcd_ediv_gcd_ediv_gcd hp

theorem dg_st {a b : Int} (h0 : 0 < b) (h : b < 1000000000) : 0 < b := h0
def dsp__law_digits : DSp := fun as M Ψ _ => ∃ o u n : Int, as = [.d (.int o), .d (.int u), .d (.int n)] ∧ (0 ≤ o ∧ o < u ∧ u ≤ 1000 ∧ 0 ≤ n ∧ n ≤ 200) ∧ Ψ (.d (.lst (dgl (o / Int.gcd o u) (u / Int.gcd o u) n.toNat))) M
def dsp__law_period : DSp := fun as M Ψ _ => ∃ o u : Int, as = [.d (.int o), .d (.int u)] ∧ (0 ≤ o ∧ o < u ∧ u ≤ 1000) ∧ ∀ s L : Nat, Again (rst (o / Int.gcd o u) (u / Int.gcd o u)) s (s + L) → s ≤ 12 ∧ 1 ≤ L ∧ L ≤ 1000 → Ψ (.d (.lst [.int s, .int L])) M
def dsp__law_integer : DSp := fun as M Ψ _ => ∃ a : Int, as = [.d (.int a)] ∧ Ψ (.d (.bl true)) M
def dsp__law_row_is : DSp := fun as M Ψ _ => ∃ ns : List Int, as = [.d (.tup (ns.map .int)), .d (.lst (ns.map .int))] ∧ Ψ (.d (.bl true)) M
section
variable {C : Dl.Ctx} {ρ : Rho} {M : Mm} {Ψ : AV → Mm → Prop}
theorem ca_ld {o u n : Int} (hp : 0 ≤ o ∧ o < u ∧ u ≤ 1000 ∧ 0 ≤ n ∧ n ≤ 200) (h : Ψ (.d (.lst (dgl (o / Int.gcd o u) (u / Int.gcd o u) n.toNat))) M) : call0 C ρ dsp__law_digits [.d (.int o), .d (.int u), .d (.int n)] M Ψ := ⟨o, u, n, rfl, hp, by show Ψ _ (M ++ []); rw [List.append_nil]; exact h⟩
theorem ca_lp {o u : Int} (hp : 0 ≤ o ∧ o < u ∧ u ≤ 1000) (h : ∀ s L : Nat, Again (rst (o / Int.gcd o u) (u / Int.gcd o u)) s (s + L) → s ≤ 12 ∧ 1 ≤ L ∧ L ≤ 1000 → Ψ (.d (.lst [.int s, .int L])) M) : call0 C ρ dsp__law_period [.d (.int o), .d (.int u)] M Ψ := ⟨o, u, rfl, hp, fun s L h1 h2 => by show Ψ _ (M ++ []); rw [List.append_nil]; exact h s L h1 h2⟩
theorem ca_li {a : Int} (h : Ψ (.d (.bl true)) M) : call0 C ρ dsp__law_integer [.d (.int a)] M Ψ := ⟨a, rfl, by show Ψ _ (M ++ []); rw [List.append_nil]; exact h⟩
theorem ca_ri (ns : List Int) (h : Ψ (.d (.bl true)) M) : call0 C ρ dsp__law_row_is [.d (.tup (ns.map .int)), .d (.lst (ns.map .int))] M Ψ := ⟨ns, rfl, by show Ψ _ (M ++ []); rw [List.append_nil]; exact h⟩
end
local macro_rules | `(tactic| fail "dl_u") => `(tactic| with_reducible refine Lw.ca_ld ?_ ?_)
local macro_rules | `(tactic| fail "dl_u") => `(tactic| with_reducible refine Lw.ca_lp ?_ fun s L hA hL => ?_)
local macro_rules | `(tactic| fail "dl_u") => `(tactic| with_reducible refine Lw.ca_li ?_)
set_option maxHeartbeats 4000000 in
theorem fk__law_integer {P : Program} {w : World} {K : PySem.W.Frag} {mg : Str → Option Value} {base : Heap} {cShare : Addr} (T : Txt K mg cShare) : Fk P w K mg base (wd K cShare) "_law_integer" ["value"] 0 dsp__law_integer 1 := by
  obtain ⟨f, fd, F, hm⟩ := T.d__law_integer.ex
  refine ⟨f, fd, fn_D2 F sc__law_integer vi__law_integer gl__law_integer rfl (fun as M Ψ E h => ?_) (fun X as M Ψ E ok own hX hM h => ?_), hm, F.kp, F.binds fun _ _ _ _ _ _ us hl => match us, hl with | [_], _ => rfl⟩
  · obtain ⟨a, rfl, h⟩ := h; rfl
  have l0 : Lv X "value" 0 := ok.lv 0 rfl (by decide) rfl rfl
  have t0 : Ls X "value" 0 := ok.ls 0 rfl (by decide)
  have b0 : Bk X "isinstance" "isinstance" := ok.bk 0 rfl T.b_isinstance rfl (by decide) rfl
  have b1 : Bt X "int" "int" := ok.bt 1 rfl T.b_int rfl (by decide) rfl
  have b2 : Bt X "bool" "bool" := ok.bt 2 rfl T.b_bool rfl (by decide) rfl
  have kShare := T.cls_Share
  have sShare : IsF X.K (wd K cShare) 0 := by rw [show X.K = K from ok.kE]; exact T.isf_Share
  have jShare : PySem.W.kitOne X.K (.ref cShare) (.ref cShare) = some true := by rw [show X.K = K from ok.kE]; exact T.kc_Share
  have qShare0 : ((wd K cShare).cf 0)[0]? = some ("over" : Str) := rfl
  have qShare1 : ((wd K cShare).cf 0)[1]? = some ("under" : Str) := rfl
  have calm := ok.calm
  have wk := ok.wk
  obtain ⟨a, rfl, h⟩ := h
  obtain rfl : M = [] := List.eq_nil_of_length_eq_zero hM
  refine ws_rho (by fail "rho") ?_
  fail "dls"
  all_goals exact h
set_option maxHeartbeats 4000000 in
theorem fk__law_digits {P : Program} {w : World} {K : PySem.W.Frag} {mg : Str → Option Value} {base : Heap} {cShare : Addr} (T : Txt K mg cShare) : Fk P w K mg base (wd K cShare) "_law_digits" ["over", "under", "many"] 0 dsp__law_digits 1 := by
  obtain ⟨f, fd, F, hm⟩ := T.d__law_digits.ex
  refine ⟨f, fd, fn_D2 F sc__law_digits vi__law_digits gl__law_digits rfl (fun as M Ψ E h => ?_) (fun X as M Ψ E ok own hX hM h => ?_), hm, F.kp, F.binds fun _ _ _ _ _ _ us hl => match us, hl with | [_, _, _], _ => rfl⟩
  · obtain ⟨o, u, n, rfl, hp, h⟩ := h; rfl
  have l0 : Lv X "over" 0 := ok.lv 0 rfl (by decide) rfl rfl
  have t0 : Ls X "over" 0 := ok.ls 0 rfl (by decide)
  have l1 : Lv X "under" 1 := ok.lv 1 rfl (by decide) rfl rfl
  have t1 : Ls X "under" 1 := ok.ls 1 rfl (by decide)
  have l2 : Lv X "many" 2 := ok.lv 2 rfl (by decide) rfl rfl
  have t2 : Ls X "many" 2 := ok.ls 2 rfl (by decide)
  have l3 : Lv X "row" 3 := ok.lv 3 rfl (by decide) rfl rfl
  have t3 : Ls X "row" 3 := ok.ls 3 rfl (by decide)
  have l4 : Lv X "before" 4 := ok.lv 4 rfl (by decide) rfl rfl
  have t4 : Ls X "before" 4 := ok.ls 4 rfl (by decide)
  have l5 : Lv X "k" 5 := ok.lv 5 rfl (by decide) rfl rfl
  have t5 : Ls X "k" 5 := ok.ls 5 rfl (by decide)
  have l6 : Lv X "now" 6 := ok.lv 6 rfl (by decide) rfl rfl
  have t6 : Ls X "now" 6 := ok.ls 6 rfl (by decide)
  have b0 : Bt X "range" "range" := ok.bt 0 rfl T.b_range rfl (by decide) rfl
  have e0 : (g__law_digits)[0]? = some ("range" : Str) := rfl
  have m0 : mg "range" = none := T.b_range
  have kShare := T.cls_Share
  have sShare : IsF X.K (wd K cShare) 0 := by rw [show X.K = K from ok.kE]; exact T.isf_Share
  have jShare : PySem.W.kitOne X.K (.ref cShare) (.ref cShare) = some true := by rw [show X.K = K from ok.kE]; exact T.kc_Share
  have qShare0 : ((wd K cShare).cf 0)[0]? = some ("over" : Str) := rfl
  have qShare1 : ((wd K cShare).cf 0)[1]? = some ("under" : Str) := rfl
  have calm := ok.calm
  have wk := ok.wk
  obtain ⟨o, u, n, rfl, hp, h⟩ := h
  obtain rfl : M = [] := List.eq_nil_of_length_eq_zero hM
  refine ws_rho (by fail "rho") ?_
  have hg : (0 : Int) < Int.gcd o u := by
    have := Int.gcd_pos_of_ne_zero_right o (b := u) (by omega); omega
  have g1 := Int.gcd_dvd_left o u
  have g2 := Int.gcd_dvd_right o u
  fail "dlj"
  refine w1_forR ok (by fail "as") (by fail "as") own ?_
  fail "dls"
  refine ⟨by omega, fun i ρ M => ∃ x y, ρ = [some (.d (.int o)), some (.d (.int u)), some (.d (.int n)), some (.m 0), some (.d (.int (o * 2 ^ i / u))), x, y] ∧ M = [.l (dgl (o / Int.gcd o u) (u / Int.gcd o u) i)], ⟨_, _, by rw [Int.pow_zero, Int.mul_one, Int.ediv_eq_zero_of_lt hp.1 hp.2.1], rfl⟩, ?_, ?_⟩
  · rintro i ρ' M' hi ⟨x, y, rfl, rfl⟩
    have e1 : ((i : Int) + 1).toNat = i + 1 := by omega
    fail "dls"
    · exact ⟨by omega, by omega, by omega⟩
    · exact ⟨by omega, by omega⟩
    · exact .inl ⟨by decide, by decide⟩
    · simp only [dgl, List.length_map, List.length_range]; omega
    · rw [e1]
      exact ⟨_, _, rfl, by rw [dgl_succ, dg_fl ⟨hp.1, hp.2.1⟩ hg g1 g2]⟩
  · rintro ρ' M' ⟨x, y, rfl, rfl⟩
    fail "dls"
    exact h
set_option maxHeartbeats 4000000 in
theorem fk__law_row_is {P : Program} {w : World} {K : PySem.W.Frag} {mg : Str → Option Value} {base : Heap} {cShare : Addr} (T : Txt K mg cShare) : Fk P w K mg base (wd K cShare) "_law_row_is" ["got", "due"] 0 dsp__law_row_is 2 := by
  obtain ⟨f, fd, F, hm⟩ := T.d__law_row_is.ex
  refine ⟨f, fd, fn_D2 F sc__law_row_is vi__law_row_is gl__law_row_is rfl (fun as M Ψ E h => ?_) (fun X as M Ψ E ok own hX hM h => ?_), hm, F.kp, F.binds fun _ _ _ _ _ _ us hl => match us, hl with | [_, _], _ => rfl⟩
  · obtain ⟨ns, rfl, h⟩ := h; rfl
  have l0 : Lv X "got" 0 := ok.lv 0 rfl (by decide) rfl rfl
  have t0 : Ls X "got" 0 := ok.ls 0 rfl (by decide)
  have l1 : Lv X "due" 1 := ok.lv 1 rfl (by decide) rfl rfl
  have t1 : Ls X "due" 1 := ok.ls 1 rfl (by decide)
  have l2 : Lv X "one" 2 := ok.lv 2 rfl (by decide) rfl rfl
  have t2 : Ls X "one" 2 := ok.ls 2 rfl (by decide)
  have l3 : Lv X "right" 3 := ok.lv 3 rfl (by decide) rfl rfl
  have t3 : Ls X "right" 3 := ok.ls 3 rfl (by decide)
  have b0 : Bk X "isinstance" "isinstance" := ok.bk 0 rfl T.b_isinstance rfl (by decide) rfl
  have b1 : Bt X "tuple" "tuple" := ok.bt 1 rfl T.b_tuple rfl (by decide) rfl
  have b2 : Bk X "len" "len" := ok.bk 2 rfl T.b_len rfl (by decide) rfl
  have b3 : Bt X "zip" "zip" := ok.bt 3 rfl T.b_zip rfl (by decide) rfl
  have e3 : (g__law_row_is)[3]? = some ("zip" : Str) := rfl
  have m3 : mg "zip" = none := T.b_zip
  have f4 := ok.fc 4 (x := "_law_integer") rfl (fk__law_integer T) (by decide) rfl
  have kShare := T.cls_Share
  have sShare : IsF X.K (wd K cShare) 0 := by rw [show X.K = K from ok.kE]; exact T.isf_Share
  have jShare : PySem.W.kitOne X.K (.ref cShare) (.ref cShare) = some true := by rw [show X.K = K from ok.kE]; exact T.kc_Share
  have qShare0 : ((wd K cShare).cf 0)[0]? = some ("over" : Str) := rfl
  have qShare1 : ((wd K cShare).cf 0)[1]? = some ("under" : Str) := rfl
  have calm := ok.calm
  have wk := ok.wk
  obtain ⟨ns, rfl, h⟩ := h
  obtain rfl : M = [] := List.eq_nil_of_length_eq_zero hM
  refine ws_rho (by fail "rho") ?_
  refine ws_cons (w1_if ?_)
  fail "dlj"
  · exfalso; rename_i hc; simp at hc
  refine w1_forZ true false ok (by fail "as") (by fail "as") own ?_
  fail "dls"
  refine ⟨_, _, rfl, rfl, fun i ρ M => ∃ x y, ρ = [some (.d (.tup (ns.map .int))), some (.d (.lst (ns.map .int))), x, y] ∧ M = [], ⟨_, _, rfl, rfl⟩, ?_, ?_⟩
  · rintro i d e ρ' M' hi hd he ⟨x, y, rfl, rfl⟩
    have hde : d = e := Option.some.inj (hd.symm.trans he)
    subst hde
    rw [List.getElem?_map] at hd
    cases hz : ns[i]? with
    | none => rw [hz] at hd; cases hd
    | some z =>
      rw [hz] at hd
      cases hd
      fail "dls"
      all_goals first | exact ⟨_, _, rfl, rfl⟩ | (rename_i hc; exact absurd trivial hc) | (rename_i hc; exact absurd rfl hc) | (rename_i hc _; exact absurd rfl hc) | (rename_i hc _ _; exact absurd rfl hc) | (rename_i hc _; exact absurd hc (by decide)) | skip
  · rintro ρ' M' ⟨x, y, rfl, rfl⟩
    fail "dls"
    exact h
theorem two_pow_q {u q : Int} {s : Nat} (h : u = 2 ^ s * q) (h2 : q % 2 = 0) : u = 2 ^ (s + 1) * (q / 2) := by
  rw [h, Int.pow_succ, Int.mul_assoc]
  congr 1
  omega
set_option maxHeartbeats 4000000 in
theorem fk__law_period {P : Program} {w : World} {K : PySem.W.Frag} {mg : Str → Option Value} {base : Heap} {cShare : Addr} (T : Txt K mg cShare) : Fk P w K mg base (wd K cShare) "_law_period" ["over", "under"] 0 dsp__law_period 2 := by
  obtain ⟨f, fd, F, hm⟩ := T.d__law_period.ex
  refine ⟨f, fd, fn_D2 F sc__law_period vi__law_period gl__law_period rfl (fun as M Ψ E h => ?_) (fun X as M Ψ E ok own hX hM h => ?_), hm, F.kp, F.binds fun _ _ _ _ _ _ us hl => match us, hl with | [_, _], _ => rfl⟩
  · obtain ⟨o, u, rfl, hp, h⟩ := h; rfl
  have l0 : Lv X "over" 0 := ok.lv 0 rfl (by decide) rfl rfl
  have t0 : Ls X "over" 0 := ok.ls 0 rfl (by decide)
  have l1 : Lv X "under" 1 := ok.lv 1 rfl (by decide) rfl rfl
  have t1 : Ls X "under" 1 := ok.ls 1 rfl (by decide)
  have l2 : Lv X "odd" 2 := ok.lv 2 rfl (by decide) rfl rfl
  have t2 : Ls X "odd" 2 := ok.ls 2 rfl (by decide)
  have l3 : Lv X "ahead" 3 := ok.lv 3 rfl (by decide) rfl rfl
  have t3 : Ls X "ahead" 3 := ok.ls 3 rfl (by decide)
  have l4 : Lv X "k" 4 := ok.lv 4 rfl (by decide) rfl rfl
  have t4 : Ls X "k" 4 := ok.ls 4 rfl (by decide)
  have l5 : Lv X "length" 5 := ok.lv 5 rfl (by decide) rfl rfl
  have t5 : Ls X "length" 5 := ok.ls 5 rfl (by decide)
  have l6 : Lv X "power" 6 := ok.lv 6 rfl (by decide) rfl rfl
  have t6 : Ls X "power" 6 := ok.ls 6 rfl (by decide)
  have f0 := ok.fc 0 (x := "_law_gcd") rfl (fk__law_gcd T) (by decide) rfl
  have b1 : Bt X "range" "range" := ok.bt 1 rfl T.b_range rfl (by decide) rfl
  have e1 : (g__law_period)[1]? = some ("range" : Str) := rfl
  have m1 : mg "range" = none := T.b_range
  have b2 : Bt X "int" "int" := ok.bt 2 rfl T.b_int rfl (by decide) rfl
  have kShare := T.cls_Share
  have sShare : IsF X.K (wd K cShare) 0 := by rw [show X.K = K from ok.kE]; exact T.isf_Share
  have jShare : PySem.W.kitOne X.K (.ref cShare) (.ref cShare) = some true := by rw [show X.K = K from ok.kE]; exact T.kc_Share
  have qShare0 : ((wd K cShare).cf 0)[0]? = some ("over" : Str) := rfl
  have qShare1 : ((wd K cShare).cf 0)[1]? = some ("under" : Str) := rfl
  have calm := ok.calm
  have wk := ok.wk
  obtain ⟨o, u, rfl, hp, h⟩ := h
  obtain rfl : M = [] := List.eq_nil_of_length_eq_zero hM
  refine ws_rho (by fail "rho") ?_
  have hg : (0 : Int) < Int.gcd o u := by
    have := Int.gcd_pos_of_ne_zero_right o (b := u) (by omega); omega
  have g1 := Int.gcd_dvd_left o u
  have g2 := Int.gcd_dvd_right o u
  have g3 : (Int.gcd o u : Int) ≤ u := Int.le_of_dvd (by omega) g2
  have hu0 : 0 < u / Int.gcd o u := Int.ediv_pos_of_pos_of_dvd (by omega) (by omega) g2
  have hu1 : u / Int.gcd o u ≤ 1000 := Int.le_trans (Int.ediv_le_self _ (by omega)) hp.2.2
  have ho0 : 0 ≤ o / Int.gcd o u := Int.ediv_nonneg hp.1 (by omega)
  have ho1 : o / Int.gcd o u < u / Int.gcd o u := by
    obtain ⟨a, ha⟩ := g1
    obtain ⟨b, hb⟩ := g2
    have e1 : o / Int.gcd o u = a := by conv => lhs; lhs; rw [ha]
                                        exact Int.mul_ediv_cancel_left _ (by omega)
    have e2 : u / Int.gcd o u = b := by conv => lhs; lhs; rw [hb]
                                        exact Int.mul_ediv_cancel_left _ (by omega)
    rw [e1, e2]
    refine Int.lt_of_mul_lt_mul_left (a := (Int.gcd o u : Int)) ?_ (by omega)
    rw [← ha, ← hb]; exact hp.2.1
  have hgc := gcd_red (o := o) (u := u) (by omega)
  fail "dlj"
  · omega
  · exact ⟨by omega, by omega⟩
  generalize (u / (Int.gcd o u : Int)) = U at *
  generalize (o / (Int.gcd o u : Int)) = O at *
  refine w1_forR ok (by fail "as") (by fail "as") own ?_
  fail "dls"
  refine ⟨by omega, fun i ρ M => ∃ (s : Nat) (q : Int) (x : Option AV), ρ = [some (.d (.int o)), some (.d (.int u)), some (.d (.int q)), some (.d (.int s)), x, none, none] ∧ M = [] ∧ U = 2 ^ s * q ∧ 0 < q ∧ s ≤ i ∧ (q % 2 = 0 → s = i), ⟨0, U, _, rfl, rfl, by rw [Int.pow_zero, Int.one_mul], by omega, by omega, by omega⟩, ?_, ?_⟩
  · rintro i ρ' M' hi ⟨s, q, x, rfl, rfl, h1, h2, h3, h4⟩
    fail "dls"
    all_goals first | decide | exact ⟨by decide, by decide⟩ | skip
    · exact ⟨s + 1, q / 2, _, rfl, rfl, two_pow_q h1 (by assumption), by omega, by omega, by omega⟩
    · exact ⟨s, q, _, rfl, rfl, h1, h2, by omega, by omega⟩
  · rintro ρ' M' ⟨s, q, x, rfl, rfl, h1, h2, h3, h4⟩
    have hq : q % 2 = 1 := by
      rcases (by omega : q % 2 = 0 ∨ q % 2 = 1) with z | z
      · exfalso
        have e := h4 z
        have : s = 12 := e
        subst this
        omega
      · exact z
    have hq1 : q ≤ 1000 := by
      have t : 1 * q ≤ 2 ^ s * q := Int.mul_le_mul_of_nonneg_right (Int.pow_pos (by decide)) (by omega)
      omega
    fail "dlj"
    · exact h2
    refine w1_forR ok (by fail "as") (by fail "as") own ?_
    fail "dls"
    refine ⟨by omega, fun i ρ M => ∃ (x : Option AV), ρ = [some (.d (.int o)), some (.d (.int u)), some (.d (.int q)), some (.d (.int s)), x, some (.d (.int i)), some (.d (.int (2 ^ i % q)))] ∧ M = [] ∧ ∀ j : Nat, 1 ≤ j → j ≤ i → (2 : Int) ^ j % q ≠ 1 % q, ⟨_, rfl, rfl, by omega⟩, ?_, ?_⟩
    · rintro i ρ' M' hi ⟨x, rfl, rfl, h5⟩
      have e1 : 2 * (2 ^ i % q) % q = 2 ^ (i + 1) % q := by rw [Int.mul_emod, Int.emod_emod, ← Int.mul_emod, Int.pow_succ, Int.mul_comm 2]
      fail "dls"
      · exact .inl ⟨by decide, by decide⟩
      · exact h2
      · exact h2
      · rename_i hc
        exact h s (i + 1) (again_of ⟨ho0, ho1⟩ hgc h1 hq h2 (by omega) (e1.symm.trans hc) (fun j j1 j2 => h5 j j1 (by omega))) ⟨h3, by omega, by omega⟩
      · rename_i hc
        refine ⟨_, by rw [e1]; rfl, rfl, fun j j1 j2 => ?_⟩
        rcases Nat.lt_or_ge i j with z | z
        · have : j = i + 1 := by omega
          subst this
          exact fun e => hc (e1.trans e)
        · exact h5 j j1 z
    · rintro ρ' M' ⟨x, rfl, rfl, h5⟩
      exfalso
      obtain ⟨n, rfl⟩ := Int.eq_ofNat_of_zero_le (Int.le_of_lt h2)
      obtain ⟨j, j1, j2, j3⟩ := ord_ex (q := n) (by omega) (by omega)
      exact h5 j j1 (by omega) (by exact_mod_cast j3)
theorem wg_lst {P : Program} {w : World} {K : PySem.W.Frag} {mg : Str → Option Value} {base : Heap} {N gs : List Str} {Vi Li : List Nat} {k : Nat} {C : Dl.Ctx} {es : List Expr} {ρ : Rho} {M : Mm} {pos : Pos} {ds : List D} {n : Nat} {Ψ : Rho → Mm → Prop} (ok : Cok C P w K mg base N gs Vi Li k) (h : WGs C es ds ρ M Ψ)
    (hn : (assignEach es C.X.env).length = ds.length := by rfl) (hst : (assignEach es C.X.env).findIdx? (·.1) = none := by rfl) : WG C (.Tuple es n pos) (.d (.lst ds)) ρ M Ψ := by
  refine ⟨fun S α σ H Q v ev r q => uG_of (pg_lst (n := ds.length) ok.calm pgs_u hn hst) ?_⟩
  obtain ⟨a, vs, e, t, rr⟩ := (show ∃ a vs, v = .ref a ∧ LSq C.W (Av S α) H a vs ∧ Reps C.W (Av S α) H ds vs from r)
  exact ⟨a, vs, e, ok.wk ▸ t.sq, reps_len rr, h.run S α σ H Q vs ev rr q⟩
structure Rd (o u : Int) : Prop where
  g0 : (0 : Int) < Int.gcd o u
  o0 : 0 ≤ o / Int.gcd o u
  lt : o / Int.gcd o u < u / Int.gcd o u
  le : u / Int.gcd o u ≤ 1000
theorem rd_of {o u : Int} (hp : 0 ≤ o ∧ o < u ∧ u ≤ 1000) : Rd o u := by
  have hg : (0 : Int) < Int.gcd o u := by
    have := Int.gcd_pos_of_ne_zero_right o (b := u) (by omega); omega
  have g1 := Int.gcd_dvd_left o u
  have g2 := Int.gcd_dvd_right o u
  refine ⟨hg, Int.ediv_nonneg hp.1 (by omega), ?_, Int.le_trans (Int.ediv_le_self _ (by omega)) hp.2.2⟩
  obtain ⟨a, ha⟩ := g1
  obtain ⟨b, hb⟩ := g2
  have e1 : o / Int.gcd o u = a := by conv => lhs; lhs; rw [ha]
                                      exact Int.mul_ediv_cancel_left _ (by omega)
  have e2 : u / Int.gcd o u = b := by conv => lhs; lhs; rw [hb]
                                      exact Int.mul_ediv_cancel_left _ (by omega)
  rw [e1, e2]
  refine Int.lt_of_mul_lt_mul_left (a := (Int.gcd o u : Int)) ?_ (by omega)
  rw [← ha, ← hb]; exact hp.2.1
theorem dgl_at {o u : Int} {n k : Nat} (h : k < n) : atI (dgl o u n) ((k : Nat) : Int) = some (.int (2 * rst o u k / u)) := by
  refine Dl.atI_nat ?_
  simp [dgl, h]
theorem dgl_at' {o u x : Int} {n k : Nat} (e : x = (k : Nat)) (h : k < n) : atI (dgl o u n) x = some (.int (2 * rst o u k / u)) := e ▸ dgl_at h
theorem rd_pre {o u : Int} (hp : 0 ≤ o ∧ o < u ∧ u ≤ 1000) : 0 ≤ o / (Int.gcd o u : Int) ∧ o / (Int.gcd o u : Int) < u / (Int.gcd o u : Int) ∧ u / (Int.gcd o u : Int) < 1000000000 ∧ (0 : Int) ≤ 200 ∧ (200 : Int) ≤ 200 :=
  ⟨(rd_of hp).o0, (rd_of hp).lt, by have := (rd_of hp).le; omega, by decide, by decide⟩
def dsp__law_told : DSp := fun as M Ψ _ => ∃ o u n : Int, as = [.d (.lst [.int o, .int u]), .d (.int n)] ∧ (0 ≤ o ∧ o < u ∧ u ≤ 1000 ∧ 0 ≤ n ∧ n ≤ 200) ∧ Ψ (.d (.bl true)) M
def dsp__law_body : DSp := fun as M Ψ _ => ∃ cs : List Int, as = [.d (.lst (cs.map .int))] ∧ Ψ (.d (.bl true)) M
def dsp_law : DSp := fun as M Ψ _ => ∃ cs : List Int, as = [.d (.lst (cs.map .int))] ∧ Ψ (.d (.bl true)) M
section
variable {C : Dl.Ctx} {ρ : Rho} {M : Mm} {Ψ : AV → Mm → Prop}
theorem ca_rd {a b : Int} {n : Nat} (h : Ψ (.d (.bl true)) M) : call0 C ρ dsp__law_row_is [.d (.tup (dgl a b n)), .d (.lst (dgl a b n))] M Ψ := by
  have e : dgl a b n = ((List.range n).map fun k => 2 * rst a b k / b).map .int := by rw [List.map_map]; rfl
  rw [e]; exact ca_ri _ h
theorem ca_rp {a x y : Int} (e : x = y) (h : Ψ (.d (.bl true)) M) : call0 C ρ dsp__law_row_is [.d (.tup [.int a, .int x]), .d (.lst [.int a, .int y])] M Ψ := by
  subst e; exact ca_ri [a, x] h
theorem ca_lt {o u n : Int} (hp : 0 ≤ o ∧ o < u ∧ u ≤ 1000 ∧ 0 ≤ n ∧ n ≤ 200) (h : Ψ (.d (.bl true)) M) : call0 C ρ dsp__law_told [.d (.lst [.int o, .int u]), .d (.int n)] M Ψ := ⟨o, u, n, rfl, hp, by show Ψ _ (M ++ []); rw [List.append_nil]; exact h⟩
theorem ca_lb {cs : List Int} (h : Ψ (.d (.bl true)) M) : call0 C ρ dsp__law_body [.d (.lst (cs.map .int))] M Ψ := ⟨cs, rfl, by show Ψ _ (M ++ []); rw [List.append_nil]; exact h⟩
theorem ca_ls0 {cs : List Int} (h : Ψ (.m 0) [stl cs 0 0 0 7]) : call0 C ρ dsp__law_start [.d (.lst (cs.map .int))] [] Ψ := ⟨cs, rfl, h⟩
end
local macro_rules | `(tactic| fail "dl_u") => `(tactic| with_reducible refine Lw.ca_rd ?_)
local macro_rules | `(tactic| fail "dl_u") => `(tactic| with_reducible refine Lw.ca_rp ?_ ?_)
local macro_rules | `(tactic| fail "dl_u") => `(tactic| with_reducible refine Lw.ca_lt ?_ ?_)
local macro_rules | `(tactic| fail "dl_u") => `(tactic| with_reducible refine Lw.ca_lb ?_)
local macro_rules | `(tactic| fail "dl_u") => `(tactic| with_reducible refine Lw.ca_ls0 ?_)
local macro_rules | `(tactic| fail "dl_u") => `(tactic| refine Lw.wg_lst (by fail "ok") ?_)
set_option maxHeartbeats 4000000 in
theorem fk__law_told {P : Program} {w : World} {K : PySem.W.Frag} {mg : Str → Option Value} {base : Heap} {cShare : Addr} (T : Txt K mg cShare) : Fk P w K mg base (wd K cShare) "_law_told" ["share", "many"] 0 dsp__law_told 9 := by
  obtain ⟨f, fd, F, hm⟩ := T.d__law_told.ex
  refine ⟨f, fd, fn_D2 F sc__law_told vi__law_told gl__law_told rfl (fun as M Ψ E h => ?_) (fun X as M Ψ E ok own hX hM h => ?_), hm, F.kp, F.binds fun _ _ _ _ _ _ us hl => match us, hl with | [_, _], _ => rfl⟩
  · obtain ⟨o, u, n, rfl, hp, h⟩ := h; rfl
  have l0 : Lv X "share" 0 := ok.lv 0 rfl (by decide) rfl rfl
  have t0 : Ls X "share" 0 := ok.ls 0 rfl (by decide)
  have l1 : Lv X "many" 1 := ok.lv 1 rfl (by decide) rfl rfl
  have t1 : Ls X "many" 1 := ok.ls 1 rfl (by decide)
  have l2 : Lv X "due" 2 := ok.lv 2 rfl (by decide) rfl rfl
  have t2 : Ls X "due" 2 := ok.ls 2 rfl (by decide)
  have l3 : Lv X "row" 3 := ok.lv 3 rfl (by decide) rfl rfl
  have t3 : Ls X "row" 3 := ok.ls 3 rfl (by decide)
  have f0 := ok.fc 0 (x := "_law_period") rfl (fk__law_period T) (by decide) rfl
  have f1 := ok.fc 1 (x := "_law_digits") rfl (fk__law_digits T) (by decide) rfl
  have f2 := ok.fc 2 (x := "_law_row_is") rfl (fk__law_row_is T) (by decide) rfl
  have f3 := ok.fc 3 (x := "digits") rfl (fk_digits T) (by decide) rfl
  have f4 := ok.cc 4 (x := "Share") (c := 0) rfl (fk_Share_init T) (by decide) rfl
  have f5 := ok.fc 5 (x := "period") rfl (fk_period T) (by decide) rfl
  have kShare := T.cls_Share
  have sShare : IsF X.K (wd K cShare) 0 := by rw [show X.K = K from ok.kE]; exact T.isf_Share
  have jShare : PySem.W.kitOne X.K (.ref cShare) (.ref cShare) = some true := by rw [show X.K = K from ok.kE]; exact T.kc_Share
  have qShare0 : ((wd K cShare).cf 0)[0]? = some ("over" : Str) := rfl
  have qShare1 : ((wd K cShare).cf 0)[1]? = some ("under" : Str) := rfl
  have calm := ok.calm
  have wk := ok.wk
  obtain ⟨o, u, n, rfl, hp, h⟩ := h
  obtain rfl : M = [] := List.eq_nil_of_length_eq_zero hM
  refine ws_rho (by fail "rho") ?_
  have hr := rd_of ⟨hp.1, hp.2.1, hp.2.2.1⟩
  obtain ⟨r1, r2, r3, r4⟩ := hr
  fail "dls"
  · omega
  · omega
  · omega
  · exact ⟨r2, r3, by omega, by omega⟩
  · omega
  refine ca_pe _ _ (hA := by assumption) (hp := ?_) ?_
  · exact ⟨r2, r3, by omega, by omega⟩
  fail "dls"
  · omega
  exact h
set_option maxHeartbeats 4000000 in
theorem fk__law_body {P : Program} {w : World} {K : PySem.W.Frag} {mg : Str → Option Value} {base : Heap} {cShare : Addr} (T : Txt K mg cShare) : Fk P w K mg base (wd K cShare) "_law_body" ["script"] 0 dsp__law_body 10 := by
  obtain ⟨f, fd, F, hm⟩ := T.d__law_body.ex
  refine ⟨f, fd, fn_D2 F sc__law_body vi__law_body gl__law_body rfl (fun as M Ψ E h => ?_) (fun X as M Ψ E ok own hX hM h => ?_), hm, F.kp, F.binds fun _ _ _ _ _ _ us hl => match us, hl with | [_], _ => rfl⟩
  · obtain ⟨cs, rfl, h⟩ := h; rfl
  have l0 : Lv X "script" 0 := ok.lv 0 rfl (by decide) rfl rfl
  have t0 : Ls X "script" 0 := ok.ls 0 rfl (by decide)
  have l1 : Lv X "state" 1 := ok.lv 1 rfl (by decide) rfl rfl
  have t1 : Ls X "state" 1 := ok.ls 1 rfl (by decide)
  have l2 : Lv X "first" 2 := ok.lv 2 rfl (by decide) rfl rfl
  have t2 : Ls X "first" 2 := ok.ls 2 rfl (by decide)
  have l3 : Lv X "second" 3 := ok.lv 3 rfl (by decide) rfl rfl
  have t3 : Ls X "second" 3 := ok.ls 3 rfl (by decide)
  have l4 : Lv X "many" 4 := ok.lv 4 rfl (by decide) rfl rfl
  have t4 : Ls X "many" 4 := ok.ls 4 rfl (by decide)
  have l5 : Lv X "ahead" 5 := ok.lv 5 rfl (by decide) rfl rfl
  have t5 : Ls X "ahead" 5 := ok.ls 5 rfl (by decide)
  have l6 : Lv X "length" 6 := ok.lv 6 rfl (by decide) rfl rfl
  have t6 : Ls X "length" 6 := ok.ls 6 rfl (by decide)
  have l7 : Lv X "row" 7 := ok.lv 7 rfl (by decide) rfl rfl
  have t7 : Ls X "row" 7 := ok.ls 7 rfl (by decide)
  have l8 : Lv X "k" 8 := ok.lv 8 rfl (by decide) rfl rfl
  have t8 : Ls X "k" 8 := ok.ls 8 rfl (by decide)
  have f0 := ok.fc 0 (x := "_law_start") rfl (fk__law_start T) (by decide) rfl
  have f1 := ok.fc 1 (x := "_law_share") rfl (fk__law_share T) (by decide) rfl
  have f2 := ok.fc 2 (x := "_law_draw") rfl (fk__law_draw T) (by decide) rfl
  have f3 := ok.fc 3 (x := "_law_told") rfl (fk__law_told T) (by decide) rfl
  have f4 := ok.fc 4 (x := "_law_period") rfl (fk__law_period T) (by decide) rfl
  have f5 := ok.fc 5 (x := "digits") rfl (fk_digits T) (by decide) rfl
  have f6 := ok.cc 6 (x := "Share") (c := 0) rfl (fk_Share_init T) (by decide) rfl
  have f7 := ok.fc 7 (x := "_law_row_is") rfl (fk__law_row_is T) (by decide) rfl
  have f8 := ok.fc 8 (x := "_law_digits") rfl (fk__law_digits T) (by decide) rfl
  have b9 : Bt X "range" "range" := ok.bt 9 rfl T.b_range rfl (by decide) rfl
  have e9 : (g__law_body)[9]? = some ("range" : Str) := rfl
  have m9 : mg "range" = none := T.b_range
  have kShare := T.cls_Share
  have sShare : IsF X.K (wd K cShare) 0 := by rw [show X.K = K from ok.kE]; exact T.isf_Share
  have jShare : PySem.W.kitOne X.K (.ref cShare) (.ref cShare) = some true := by rw [show X.K = K from ok.kE]; exact T.kc_Share
  have qShare0 : ((wd K cShare).cf 0)[0]? = some ("over" : Str) := rfl
  have qShare1 : ((wd K cShare).cf 0)[1]? = some ("under" : Str) := rfl
  have calm := ok.calm
  have wk := ok.wk
  obtain ⟨cs, rfl, h⟩ := h
  obtain rfl : M = [] := List.eq_nil_of_length_eq_zero hM
  refine ws_rho (by fail "rho") ?_
  have h7 : Sp4 0 0 7 := ⟨by omega, by omega, by omega⟩
  fail "dlj"
  rename_i o1 u1 p1 a1 b1 c1 h1 hs1 o2 u2 p2 a2 b2 c2 h2 hs2 n1 p3 a3 b3 c3 hr hs3
  refine ws_join (fun ρ M => ∃ p a b c, ρ = [some (.d (.lst (cs.map .int))), some (.m 0), some (.d (.lst [.int o1, .int u1])), some (.d (.lst [.int o2, .int u2])), some (.d (.int n1)), none, none, none, none] ∧ M = [stl cs p a b c] ∧ Sp4 p a c) (w1_if ?_) ?_
  · fail "dls"
    all_goals first | exact ⟨_, _, _, _, rfl, rfl, by assumption⟩ | omega | (rename_i hc; exact absurd trivial hc) | skip
  rintro ρ M ⟨p, a, b, c, rfl, rfl, hs⟩
  fail "dlj"
  · omega
  · omega
  · exact rd_pre h1
  rename_i s L hA hL
  refine ws_cons (w1_if ?_)
  fail "dls"
  · omega
  refine ca_rd ?_
  fail "dls"
  refine w1_forR ok (by fail "as") (by fail "as") own ?_
  fail "dls"
  refine ⟨by omega, fun i ρ M => ∃ x, ρ = [some (.d (.lst (cs.map .int))), some (.m 0), some (.d (.lst [.int o1, .int u1])), some (.d (.lst [.int o2, .int u2])), some (.d (.int n1)), some (.d (.int s)), some (.d (.int L)), some (.d (.tup (dgl (o1 / Int.gcd o1 u1) (u1 / Int.gcd o1 u1) 200))), x] ∧ M = [stl cs p a b c], ⟨_, rfl, rfl⟩, ?_, ?_⟩
  · rintro i ρ' M' hi ⟨x, rfl, rfl⟩
    fail "dls"
    · exact ⟨_, rfl, rfl⟩
    · rename_i hc
      have key : rst (o1 / Int.gcd o1 u1) (u1 / Int.gcd o1 u1) (i + L) = rst (o1 / Int.gcd o1 u1) (u1 / Int.gcd o1 u1) i := by
        have z := again_per hA (i - s)
        rwa [show s + (i - s) = i from by omega] at z
      refine wi_seq (by exact wk) (by rfl) (dgl_at' (o := o1 / Int.gcd o1 u1) (u := u1 / Int.gcd o1 u1) (n := 200) (k := i) rfl (by omega)) ?_
      fail "dls"
      refine wi_seq (by exact wk) (by rfl) (dgl_at' (o := o1 / Int.gcd o1 u1) (u := u1 / Int.gcd o1 u1) (n := 200) (k := i + L) (by omega) (by omega)) ?_
      rw [key]
      fail "dls"
      all_goals first | exact ⟨_, rfl, rfl⟩ | (rename_i hc; exact absurd trivial hc) | skip
  · rintro ρ' M' ⟨x, rfl, rfl⟩
    fail "dls"
    · omega
    · omega
    exact h
set_option maxHeartbeats 4000000 in
theorem ok_law {P : Program} {w : World} {K : PySem.W.Frag} {mg : Str → Option Value} {base : Heap} {cShare : Addr} (T : Txt K mg cShare) {f : Addr} {fd : FuncData} (F : Fun K "law" "law" s_law f fd) : FnOk P w K mg base (L2.CX P w) 11 f fd ["script"] (spOf (wd K cShare) 0 dsp_law) := by
  refine fn_D2 F sc_law vi_law gl_law rfl (fun as M Ψ E h => ?_) (fun X as M Ψ E ok own hX hM h => ?_)
  · obtain ⟨cs, rfl, h⟩ := h; rfl
  have l0 : Lv X "script" 0 := ok.lv 0 rfl (by decide) rfl rfl
  have t0 : Ls X "script" 0 := ok.ls 0 rfl (by decide)
  have f0 := ok.fc 0 (x := "_law_body") rfl (fk__law_body T) (by decide) rfl
  have kShare := T.cls_Share
  have sShare : IsF X.K (wd K cShare) 0 := by rw [show X.K = K from ok.kE]; exact T.isf_Share
  have jShare : PySem.W.kitOne X.K (.ref cShare) (.ref cShare) = some true := by rw [show X.K = K from ok.kE]; exact T.kc_Share
  have qShare0 : ((wd K cShare).cf 0)[0]? = some ("over" : Str) := rfl
  have qShare1 : ((wd K cShare).cf 0)[1]? = some ("under" : Str) := rfl
  have calm := ok.calm
  have wk := ok.wk
  obtain ⟨cs, rfl, h⟩ := h
  obtain rfl : M = [] := List.eq_nil_of_length_eq_zero hM
  refine ws_rho (by fail "rho") ?_
  have f0' : Fc X.nox (wd K cShare) "_law_body" 0 dsp__law_body := ⟨f0.gl, f0.ex, f0.n2⟩
  have l0' : Lv X.nox "script" 0 := ⟨l0.nm, l0.vis, l0.d1, l0.d2⟩
  refine ws_one (w1_thru ?_)
  fail "dls"
  exact h
theorem all_of {P : Program} {w : World} {K : PySem.W.Frag} {h : Heap} {mg : Str → Option Value} {fa cShare : Addr} (X : K.In h) (G : h.Ns mainGlobals mg) (hfa : mg "law" = some (.ref fa)) (T : Txt K mg cShare) :
    ∃ fd : FuncData, (∀ (s : Shared) (u : Value), BindsTo s fd ⟨[u], []⟩ [("script", u)]) ∧ ∀ base : Heap, K.In base → base.Ns mainGlobals mg → FnOk P w K mg base (L2.CX P w) 11 fa fd ["script"] (spOf (wd K cShare) 0 dsp_law) := by
  obtain ⟨f, fd, F, hm⟩ := T.d_law.ex
  have e := hfa.symm.trans hm
  cases e
  obtain ⟨oc, od, kV, doc, pm, an, cdv, ct, osl, efd, lk, hcd⟩ := F.ex
  exact ⟨fd, fun s u => by subst efd; exact .of_eq rfl, fun base KB GB => ok_law (P := P) (w := w) (base := base) T F⟩
theorem sp_law {K : PySem.W.Frag} {W : Wd} (wk : W.K = K) (H : Hp) (a : Addr) (ns : List Int) (hS : SqL K H a (ns.map V.int)) : spOf W 0 dsp_law [.ref a] H (fun v _ => v = .bl true) fun _ _ _ => False :=
  sp_lawD wk H a ns hS (fun a _ => a = .d (.bl true)) (fun _ _ _ => False) ⟨ns, rfl, rfl⟩ (fun a M e => by subst e; rfl) (fun _ _ _ z => z)
theorem walk {l : PySem.W.OpenLaw} {q : Program} {loose : List Str} {XP : (Str → Option Value) → Heap → Prop} {YP : World → Heap → Prop} {d : DefRec} {K : Params → PySem.W.Frag} {cShare : Addr} (hn : l.most = some 63) (hdf : d.params.defaults = [])
    (hY : ∀ (w : World) (h : Heap), YP w h → (K w.params).In h)
    (F : ∀ (w : World) (mg : Str → Option Value) (fa : Addr) (h : Heap), (K w.params).In h → h.Ns mainGlobals mg → mg d.name = some (.ref fa) → mg "law" = some (.ref fa) ∧ Txt (K w.params) mg cShare) (hd : d.name = "law") :
    PySem.W.WalkO q loose XP YP l.row.toRowW d [] (fun f vs => PySem.call f vs) :=
  L2.walk_of (n := 63) (k := 11) (x := "script") (CX := fun w => L2.CX l.prog w) (sp := fun w => spOf (wd (K w.params) cShare) 0 dsp_law) hn (by decide) hdf ⟨rfl, by decide, by decide⟩ hY
    (fun w mg fa h KX G hmg => all_of KX G (F w mg fa h KX G hmg).1 (F w mg fa h KX G hmg).2) (fun w H a ns _ _ hS => sp_law rfl H a ns hS)
    fun w H s e s' ⟨_, _, _, _, _, _, _, _, _, _, _, _, z⟩ => z.elim
end Lw
open PySem PySem.W PyProof.Rows
set_option maxRecDepth 100000 in
set_option maxHeartbeats 0 in
theorem PySem.Challenge.cw_sourcestold_k70_digits_and_periods_holds : PySem.Challenge.rw_sourcestold_k70_digits_and_periods.Holds := by
  w_on; o_law; k_head; (case hw => w_witness2)
  k_fill
  refine' Lw.walk (l := PySem.Challenge.rw_sourcestold_k70_digits_and_periods) rfl rfl (fun w h Y => PySem.W.kIn_of Y) ?F ?hd
  case hd => rfl
  case F =>
    intro w mg fa h KX G hmg
    refine' ⟨hmg, ?T⟩
    case T =>
      refine' { d_law := ?d_law, d__law_body := ?d__law_body, d__law_start := ?d__law_start, d__law_share := ?d__law_share, d__law_draw := ?d__law_draw, d_Share_eq := ?d_Share_eq, d_Share_init := ?d_Share_init, d_greatest_divisor := ?d_greatest_divisor, d__law_told := ?d__law_told, d__law_period := ?d__law_period, d__law_gcd := ?d__law_gcd, d__law_digits := ?d__law_digits, d__law_row_is := ?d__law_row_is, d__law_integer := ?d__law_integer, d_digits := ?d_digits, d__check_below_one := ?d__check_below_one, d_check_part := ?d_check_part, d_share_to_one := ?d_share_to_one, d_share_from_zero := ?d_share_from_zero, d_check_number := ?d_check_number, d_integer_within := ?d_integer_within, d_is_integer := ?d_is_integer, d__digit_behind := ?d__digit_behind, d_period := ?d_period, b_range := ?b_range, b_list := ?b_list, b_max := ?b_max, b_len := ?b_len, b_abs := ?b_abs, b_int := ?b_int, b_isinstance := ?b_isinstance, b_tuple := ?b_tuple, b_zip := ?b_zip, b_bool := ?b_bool, b_divmod := ?b_divmod, i_COINS_AT_MOST := ?i_COINS_AT_MOST, c_Share := ?c_Share, k_Share := ?k_Share, pg_Share := ?pg_Share, hd_Share := ?hd_Share, po_Share := ?po_Share, sa_Share := ?sa_Share, mk_Share := ?mk_Share, na_Share_over := ?na_Share_over, na_Share_under := ?na_Share_under, ha_Share := ?ha_Share, hm_Share := ?hm_Share, kc_Share := ?kc_Share, hn := ?hn, ht := ?ht }
      case c_Share => fail "dl_glo"
      case d_law => fail "dl_def"
      case d__law_body => fail "dl_def"
      case d__law_start => fail "dl_def"
      case d__law_share => fail "dl_def"
      case d__law_draw => fail "dl_def"
      case d_Share_eq => fail "dl_meth"
      case d_Share_init => fail "dl_meth"
      case d_greatest_divisor => fail "dl_def"
      case d__law_told => fail "dl_def"
      case d__law_period => fail "dl_def"
      case d__law_gcd => fail "dl_def"
      case d__law_digits => fail "dl_def"
      case d__law_row_is => fail "dl_def"
      case d__law_integer => fail "dl_def"
      case d_digits => fail "dl_def"
      case d__check_below_one => fail "dl_def"
      case d_check_part => fail "dl_def"
      case d_share_to_one => fail "dl_def"
      case d_share_from_zero => fail "dl_def"
      case d_check_number => fail "dl_def"
      case d_integer_within => fail "dl_def"
      case d_is_integer => fail "dl_def"
      case d__digit_behind => fail "dl_def"
      case d_period => fail "dl_def"
      case b_range => fail "dl_none"
      case b_list => fail "dl_none"
      case b_max => fail "dl_none"
      case b_len => fail "dl_none"
      case b_abs => fail "dl_none"
      case b_int => fail "dl_none"
      case b_isinstance => fail "dl_none"
      case b_tuple => fail "dl_none"
      case b_zip => fail "dl_none"
      case b_bool => fail "dl_none"
      case b_divmod => fail "dl_none"
      case i_COINS_AT_MOST => fail "dl_cst"
      case k_Share => k_is
      case pg_Share => k_is
      case hd_Share => k_is
      case po_Share => k_is
      case sa_Share => k_is
      case mk_Share => k_is
      case na_Share_over => (delta L2.NoAttr; k_is)
      case na_Share_under => (delta L2.NoAttr; k_is)
      case ha_Share => k_is
      case hm_Share => k_is
      case kc_Share => fail "dl_kit"
      case hn => k_is
      case ht => k_is
