import PyProof.Rows.All
import Wide.All
import OpenK.AllK
import Wide.FinOn
import HandS.ForMost
import HandS.Exc
import HandS.IsInst
import HandS.Wide
import HandS.WideBits
import HandS.Small
import HandS.ExcOwn
import HandS.WordsExc
import KE.GoesEnum
import HandS.Zip
import HandS.Comp
import HandS.TupAny
import HandS.Conv
import HandS.SortInts
import HandS.Rev
import HandS.Strs
import HandS.SortOrd
import HandS.NoneIn
import HandS.Deep
import PyProof.Draws
import HandS.TryOnly
import PySem.Challenge.RW_sourcestold_k66_whole_tails
set_option Elab.async false
set_option linter.all false
set_option maxRecDepth 100000
set_option maxHeartbeats 2000000
/-! DL1: data without a heap; what a heap holds of it; the judgements over data. -/
namespace Dl
open PySem L2

/-- a value without addresses; nothing of it is changed any more -/
inductive D where
  | non | bl (b : Bool) | int (i : Int) | str (x : Str)
  | tup (ds : List D) | lst (ds : List D)
  | tw (ds : List D)
  | ob (c : Nat) (ds : List D)
  | dk (ks : List Key) (ds : List D)
  | fn (a : Addr) | ty (n : String)

/-- the classes of the text: class c stands at ca c, its attributes are cf c -/
structure Wd where
  K : PySem.W.Frag
  ca : Nat → Addr
  cf : Nat → List Str

/-- a list, a tuple that is read away from S, or one of the module -/
def LSq (W : Wd) (S : Addr → Prop) (H : Hp) (a : Addr) (vs : List V) : Prop := (¬ S a ∧ Rd H a (.lst vs)) ∨ SqL W.K (fun _ => none) a vs
/-- a tuple: its record is known to have no attributes -/
def TSq (W : Wd) (S : Addr → Prop) (H : Hp) (a : Addr) (vs : List V) : Prop := (¬ S a ∧ ∃ o : Obj, H a = some (.frz o (.tup vs)) ∧ o.dict = none) ∨ (SqT W.K (fun _ => none) a vs ∧ ∃ o : Obj, W.K.lookup a = some o ∧ o.cls = .type "tuple" ∧ o.dict = none)
/-- a tuple of which no more is known -/
def TSw (W : Wd) (S : Addr → Prop) (H : Hp) (a : Addr) (vs : List V) : Prop := ¬ S a ∧ Rd H a (.tup vs)

mutual
def Rep (W : Wd) (S : Addr → Prop) (H : Hp) : D → V → Prop
  | .non, v => v = .non
  | .bl b, v => v = .bl b
  | .int i, v => v = .int i
  | .str x, v => v = .str x
  | .tup ds, v => ∃ a vs, v = .ref a ∧ TSq W S H a vs ∧ Reps W S H ds vs
  | .lst ds, v => ∃ a vs, v = .ref a ∧ LSq W S H a vs ∧ Reps W S H ds vs
  | .tw ds, v => ∃ a vs, v = .ref a ∧ TSw W S H a vs ∧ Reps W S H ds vs
  | .ob c ds, v => ∃ a dx vs, v = .ref a ∧ ¬ S a ∧ H a = some (.ins (W.ca c) dx ((W.cf c).zip vs)) ∧ vs.length = (W.cf c).length ∧ Reps W S H ds vs
  | .dk ks ds, v => ∃ a vs, v = .ref a ∧ ¬ S a ∧ H a = some (.dK (ks.zip vs)) ∧ vs.length = ks.length ∧ Reps W S H ds vs
  | .fn a, v => v = .ref a
  | .ty n, v => v = .ty n
def Reps (W : Wd) (S : Addr → Prop) (H : Hp) : List D → List V → Prop
  | [], vs => vs = []
  | d :: ds, vs => ∃ v r, vs = v :: r ∧ Rep W S H d v ∧ Reps W S H ds r
end

theorem LSq.tr {W : Wd} {S S' : Addr → Prop} {H H' : Hp} {a : Addr} {vs : List V} (h : LSq W S H a vs) (hs : ∀ b, S' b → S b ∨ H b = none) (hk : ∀ b o, ¬ S b → H b = some o → H' b = some o) : LSq W S' H' a vs := by
  rcases h with ⟨n, r⟩ | h
  · refine .inl ⟨fun z => ?_, ?_⟩
    · rcases hs a z with q | q
      · exact n q
      · rcases r with r | ⟨o, r⟩ <;> (rw [q] at r; cases r)
    · rcases r with r | ⟨o, r⟩
      · exact .inl (hk _ _ n r)
      · exact .inr ⟨o, hk _ _ n r⟩
  · exact .inr h
theorem TSq.tr {W : Wd} {S S' : Addr → Prop} {H H' : Hp} {a : Addr} {vs : List V} (h : TSq W S H a vs) (hs : ∀ b, S' b → S b ∨ H b = none) (hk : ∀ b o, ¬ S b → H b = some o → H' b = some o) : TSq W S' H' a vs := by
  rcases h with ⟨n, o, r, hd⟩ | h
  · refine .inl ⟨fun z => ?_, o, hk _ _ n r, hd⟩
    rcases hs a z with q | q
    · exact n q
    · rw [q] at r; cases r
  · exact .inr h
theorem TSw.tr {W : Wd} {S S' : Addr → Prop} {H H' : Hp} {a : Addr} {vs : List V} (h : TSw W S H a vs) (hs : ∀ b, S' b → S b ∨ H b = none) (hk : ∀ b o, ¬ S b → H b = some o → H' b = some o) : TSw W S' H' a vs := by
  obtain ⟨n, r⟩ := h
  refine ⟨fun z => ?_, ?_⟩
  · rcases hs a z with q | q
    · exact n q
    · rcases r with r | ⟨o, r⟩ <;> (rw [q] at r; cases r)
  · rcases r with r | ⟨o, r⟩
    · exact .inl (hk _ _ n r)
    · exact .inr ⟨o, hk _ _ n r⟩
theorem LSq.sq {W : Wd} {S : Addr → Prop} {H : Hp} {a : Addr} {vs : List V} (h : LSq W S H a vs) : SqL W.K H a vs := by
  rcases h with ⟨_, r⟩ | h | h
  · exact .inl r
  · rcases h with h | ⟨_, h⟩ <;> cases h
  · exact .inr h
theorem TSq.sq {W : Wd} {S : Addr → Prop} {H : Hp} {a : Addr} {vs : List V} (h : TSq W S H a vs) : SqT W.K H a vs := by
  rcases h with ⟨_, o, r, _⟩ | ⟨h | h, _⟩
  · exact .inl (.inr ⟨o, r⟩)
  · rcases h with h | ⟨_, h⟩ <;> cases h
  · exact .inr h
theorem TSw.sq {W : Wd} {S : Addr → Prop} {H : Hp} {a : Addr} {vs : List V} (h : TSw W S H a vs) : SqT W.K H a vs := .inl h.2

mutual
theorem Rep.tr {W : Wd} {S S' : Addr → Prop} {H H' : Hp} (hs : ∀ b, S' b → S b ∨ H b = none) (hk : ∀ b o, ¬ S b → H b = some o → H' b = some o) : ∀ (d : D) (v : V), Rep W S H d v → Rep W S' H' d v
  | .non, v, h => h
  | .bl b, v, h => h
  | .int i, v, h => h
  | .str x, v, h => h
  | .fn a, v, h => h
  | .ty n, v, h => h
  | .tup ds, v, h => by
    obtain ⟨a, vs, e, t, r⟩ := (show ∃ a vs, v = .ref a ∧ TSq W S H a vs ∧ Reps W S H ds vs from h)
    exact ⟨a, vs, e, t.tr hs hk, Reps.tr hs hk ds vs r⟩
  | .lst ds, v, h => by
    obtain ⟨a, vs, e, t, r⟩ := (show ∃ a vs, v = .ref a ∧ LSq W S H a vs ∧ Reps W S H ds vs from h)
    exact ⟨a, vs, e, t.tr hs hk, Reps.tr hs hk ds vs r⟩
  | .tw ds, v, h => by
    obtain ⟨a, vs, e, t, r⟩ := (show ∃ a vs, v = .ref a ∧ TSw W S H a vs ∧ Reps W S H ds vs from h)
    exact ⟨a, vs, e, t.tr hs hk, Reps.tr hs hk ds vs r⟩
  | .ob c ds, v, h => by
    obtain ⟨a, dx, vs, e, n, t, l, r⟩ := (show ∃ a dx vs, v = .ref a ∧ ¬ S a ∧ H a = some (.ins (W.ca c) dx ((W.cf c).zip vs)) ∧ vs.length = (W.cf c).length ∧ Reps W S H ds vs from h)
    refine ⟨a, dx, vs, e, fun z => ?_, hk _ _ n t, l, Reps.tr hs hk ds vs r⟩
    rcases hs a z with q | q
    · exact n q
    · rw [q] at t; cases t
  | .dk ks ds, v, h => by
    obtain ⟨a, vs, e, n, t, l, r⟩ := (show ∃ a vs, v = .ref a ∧ ¬ S a ∧ H a = some (.dK (ks.zip vs)) ∧ vs.length = ks.length ∧ Reps W S H ds vs from h)
    refine ⟨a, vs, e, fun z => ?_, hk _ _ n t, l, Reps.tr hs hk ds vs r⟩
    rcases hs a z with q | q
    · exact n q
    · rw [q] at t; cases t
theorem Reps.tr {W : Wd} {S S' : Addr → Prop} {H H' : Hp} (hs : ∀ b, S' b → S b ∨ H b = none) (hk : ∀ b o, ¬ S b → H b = some o → H' b = some o) : ∀ (ds : List D) (vs : List V), Reps W S H ds vs → Reps W S' H' ds vs
  | [], vs, h => h
  | d :: ds, vs, h => by
    obtain ⟨v, r, e, a, b⟩ := (show ∃ v r, vs = v :: r ∧ Rep W S H d v ∧ Reps W S H ds r from h)
    exact ⟨v, r, e, Rep.tr hs hk d v a, Reps.tr hs hk ds r b⟩
end
section
variable {W : Wd} {S S' : Addr → Prop} {H H' : Hp}
theorem reps_len : ∀ {ds : List D} {vs : List V}, Reps W S H ds vs → vs.length = ds.length
  | [], vs, h => by rw [show vs = [] from h]; rfl
  | d :: ds, vs, h => by
    obtain ⟨v, r, e, a, b⟩ := (show ∃ v r, vs = v :: r ∧ Rep W S H d v ∧ Reps W S H ds r from h)
    rw [e, List.length_cons, List.length_cons, reps_len b]
theorem reps_nil : Reps W S H [] [] := rfl
theorem reps_cons {d : D} {v : V} {ds : List D} {vs : List V} (h : Rep W S H d v) (t : Reps W S H ds vs) : Reps W S H (d :: ds) (v :: vs) := ⟨v, vs, rfl, h, t⟩
theorem reps_app : ∀ {ds es : List D} {vs us : List V}, Reps W S H ds vs → Reps W S H es us → Reps W S H (ds ++ es) (vs ++ us)
  | [], _, vs, _, h, t => by rw [show vs = [] from h]; exact t
  | d :: ds, _, vs, _, h, t => by
    obtain ⟨v, r, e, a, b⟩ := (show ∃ v r, vs = v :: r ∧ Rep W S H d v ∧ Reps W S H ds r from h)
    rw [e]
    exact ⟨v, _, rfl, a, reps_app b t⟩
theorem reps_get : ∀ {ds : List D} {vs : List V} {i : Nat} {d : D}, Reps W S H ds vs → ds[i]? = some d → ∃ v, vs[i]? = some v ∧ Rep W S H d v
  | [], _, _, _, _, h => by simp at h
  | d :: ds, vs, i, x, h, hi => by
    obtain ⟨v, r, e, a, b⟩ := (show ∃ v r, vs = v :: r ∧ Rep W S H d v ∧ Reps W S H ds r from h)
    subst e
    cases i with
    | zero => simp at hi; subst hi; exact ⟨v, rfl, a⟩
    | succ i => exact reps_get (i := i) b (by simpa using hi)
theorem reps_get' : ∀ {ds : List D} {vs : List V} {i : Nat} {v : V}, Reps W S H ds vs → vs[i]? = some v → ∃ d, ds[i]? = some d ∧ Rep W S H d v
  | [], vs, _, _, h, hi => by rw [show vs = [] from h] at hi; simp at hi
  | d :: ds, vs, i, x, h, hi => by
    obtain ⟨v, r, e, a, b⟩ := (show ∃ v r, vs = v :: r ∧ Rep W S H d v ∧ Reps W S H ds r from h)
    subst e
    cases i with
    | zero => simp at hi; subst hi; exact ⟨d, rfl, a⟩
    | succ i => exact reps_get' (i := i) b (by simpa using hi)
theorem reps_set : ∀ {ds : List D} {vs : List V} {d : D} {v : V} (i : Nat), Reps W S H ds vs → Rep W S H d v → Reps W S H (ds.set i d) (vs.set i v)
  | [], vs, _, _, _, h, _ => by rw [show vs = [] from h]; exact rfl
  | d :: ds, vs, x, u, i, h, hx => by
    obtain ⟨v, r, e, a, b⟩ := (show ∃ v r, vs = v :: r ∧ Rep W S H d v ∧ Reps W S H ds r from h)
    subst e
    cases i with
    | zero => exact ⟨u, r, rfl, hx, b⟩
    | succ i => exact ⟨v, _, rfl, a, reps_set i b hx⟩
theorem reps_take : ∀ {ds : List D} {vs : List V} (n : Nat), Reps W S H ds vs → Reps W S H (ds.take n) (vs.take n)
  | [], vs, n, h => by rw [show vs = [] from h]; simp; exact rfl
  | d :: ds, vs, 0, h => by simp; exact rfl
  | d :: ds, vs, n + 1, h => by
    obtain ⟨v, r, e, a, b⟩ := (show ∃ v r, vs = v :: r ∧ Rep W S H d v ∧ Reps W S H ds r from h)
    subst e
    exact ⟨v, _, rfl, a, reps_take n b⟩
theorem reps_drop : ∀ {ds : List D} {vs : List V} (n : Nat), Reps W S H ds vs → Reps W S H (ds.drop n) (vs.drop n)
  | [], vs, n, h => by rw [show vs = [] from h]; simp; exact rfl
  | d :: ds, vs, 0, h => h
  | d :: ds, vs, n + 1, h => by
    obtain ⟨v, r, e, a, b⟩ := (show ∃ v r, vs = v :: r ∧ Rep W S H d v ∧ Reps W S H ds r from h)
    subst e
    exact reps_drop n b
theorem reps_rev : ∀ {ds : List D} {vs : List V}, Reps W S H ds vs → Reps W S H ds.reverse vs.reverse
  | [], vs, h => by rw [show vs = [] from h]; exact rfl
  | d :: ds, vs, h => by
    obtain ⟨v, r, e, a, b⟩ := (show ∃ v r, vs = v :: r ∧ Rep W S H d v ∧ Reps W S H ds r from h)
    subst e
    rw [List.reverse_cons, List.reverse_cons]
    exact reps_app (reps_rev b) (reps_cons a reps_nil)
theorem reps_cut {ds : List D} {vs : List V} (lo hi : Option Int) (h : Reps W S H ds vs) : Reps W S H ((ds.drop (HT.sIx ds.length 0 lo)).take (HT.sIx ds.length ds.length hi - HT.sIx ds.length 0 lo)) (cutV vs lo hi) := by
  unfold cutV
  rw [reps_len h]
  exact reps_take _ (reps_drop _ h)
end

/-! ### the store: things that are changed -/
/-- what may be changed: a list, a dict, an instance; dead: no more -/
inductive MO where
  | l (ds : List D) | k (ks : List Key) (ds : List D) | o (c : Nat) (ds : List D) | dead
def MRep (W : Wd) (S : Addr → Prop) (H : Hp) : MO → List Addr → Prop
  | .l ds, l => ∃ p vs, l = [p] ∧ H p = some (.lst vs) ∧ Reps W S H ds vs
  | .k ks ds, l => ∃ p vs, l = [p] ∧ H p = some (.dK (ks.zip vs)) ∧ vs.length = ks.length ∧ Reps W S H ds vs
  | .o c ds, l => ∃ p dx vs, l = [p] ∧ H p = some (.ins (W.ca c) dx ((W.cf c).zip vs)) ∧ vs.length ≤ (W.cf c).length ∧ Reps W S H ds vs
  | .dead, l => l = []
theorem MRep.tr {W : Wd} {S S' : Addr → Prop} {H H' : Hp} {m : MO} {l : List Addr} (h : MRep W S H m l) (hs : ∀ b, S' b → S b ∨ H b = none) (hk : ∀ b o, ¬ S b → H b = some o → H' b = some o) (hl : ∀ b o, b ∈ l → H b = some o → H' b = some o) : MRep W S' H' m l := by
  cases m with
  | l ds => obtain ⟨p, vs, e, t, r⟩ := h; exact ⟨p, vs, e, hl _ _ (by rw [e]; simp) t, Reps.tr hs hk _ _ r⟩
  | k ks ds => obtain ⟨p, vs, e, t, z, r⟩ := h; exact ⟨p, vs, e, hl _ _ (by rw [e]; simp) t, z, Reps.tr hs hk _ _ r⟩
  | o c ds => obtain ⟨p, dx, vs, e, t, z, r⟩ := h; exact ⟨p, dx, vs, e, hl _ _ (by rw [e]; simp) t, z, Reps.tr hs hk _ _ r⟩
  | dead => exact h
theorem MRep.trk {W : Wd} {S : Addr → Prop} {H : Hp} {m : MO} {l : List Addr} (h : MRep W S H m l) {b : Addr} (hb : b ∈ l) : H b ≠ none := by
  cases m with
  | l ds => obtain ⟨p, vs, e, t, r⟩ := h; rw [e] at hb; simp at hb; subst hb; rw [t]; simp
  | k ks ds => obtain ⟨p, vs, e, t, r⟩ := h; rw [e] at hb; simp at hb; subst hb; rw [t]; simp
  | o c ds => obtain ⟨p, dx, vs, e, t, r⟩ := h; rw [e] at hb; simp at hb; subst hb; rw [t]; simp
  | dead => rw [show l = [] from h] at hb; simp at hb

/-- a value or the k-th thing of the store -/
inductive AV where
  | d (x : D) | m (k : Nat)
abbrev Rho := List (Option AV)
abbrev Mm := List MO
abbrev Als := List (List Addr)
def Av (S : Addr → Prop) (α : Als) : Addr → Prop := fun b => S b ∨ ∃ l ∈ α, b ∈ l

structure EM (W : Wd) (S : Addr → Prop) (α : Als) (M : Mm) (H : Hp) : Prop where
  rep : Paired (MRep W (Av S α) H) M α
  nd : α.flatten.Nodup
  trk : ∀ b, S b → H b ≠ none

def RepA (W : Wd) (S : Addr → Prop) (α : Als) (H : Hp) : AV → V → Prop
  | .d x, v => Rep W (Av S α) H x v
  | .m k, v => ∃ p l, α[k]? = some (p :: l) ∧ v = .ref p

structure Ev (W : Wd) (S : Addr → Prop) (α : Als) (ρ : Rho) (M : Mm) (σ : L2.St) (H : Hp) : Prop where
  em : EM W S α M H
  len : σ.length = ρ.length
  sl : ∀ (i : Nat) a, ρ[i]? = some (some a) → ∃ v, σ[i]? = some (some v) ∧ RepA W S α H a v

/-- how a heap may go on: what stands outside the store is kept, what is tracked stays tracked, the new things are new -/
structure Gr (α β : Als) (H H' : Hp) : Prop where
  kp : ∀ b o, (∀ l ∈ α, b ∉ l) → H b = some o → H' b = some o
  st : ∀ b, H b ≠ none → H' b ≠ none
  fr : ∀ l ∈ β, ∀ b ∈ l, H b = none

section
variable {W : Wd} {S : Addr → Prop} {α β γ : Als} {ρ : Rho} {M M' : Mm} {σ : L2.St} {H H' H1 H2 : Hp}
theorem Gr.refl : Gr α [] H H := ⟨fun _ _ _ h => h, fun _ h => h, fun _ h => by simp at h⟩
theorem Gr.same (h : Same H H') : Gr α [] H H' := ⟨fun b o _ e => h b o e, fun b e => by
  cases q : H b with
  | none => exact absurd q e
  | some o => rw [h b o q]; simp, fun _ h => by simp at h⟩
theorem Gr.trans (h1 : Gr α β H H1) (h2 : Gr (α ++ β) γ H1 H2) : Gr α (β ++ γ) H H2 := by
  refine ⟨fun b o n e => ?_, fun b e => h2.st b (h1.st b e), fun l hl b hb => ?_⟩
  · have e1 := h1.kp b o n e
    refine h2.kp b o (fun l hl z => ?_) e1
    rcases List.mem_append.mp hl with q | q
    · exact n l q z
    · rw [h1.fr l q b z] at e; cases e
  · rcases List.mem_append.mp hl with q | q
    · exact h1.fr l q b hb
    · have e1 := h2.fr l q b hb
      cases e : H b with
      | none => rfl
      | some o => exact absurd e1 (h1.st b (by rw [e]; simp))
theorem paired_trk {T : Addr → Prop} {l : List Addr} {b : Addr} (hb : b ∈ l) : ∀ {M : Mm} {α : Als}, Paired (MRep W T H) M α → l ∈ α → H b ≠ none := by
  intro M α p
  induction p with
  | nil => intro h; simp at h
  | cons r t ih =>
    intro h
    rcases List.mem_cons.mp h with q | q
    · subst q; exact r.trk hb
    · exact ih q
theorem EM.trA (e : EM W S α M H) : ∀ b, Av S α b → H b ≠ none := fun b hb => by
  rcases hb with hb | ⟨l, hl, hb⟩
  · exact e.trk b hb
  · exact paired_trk hb e.rep hl
theorem EM.len (e : EM W S α M H) : M.length = α.length := Paired.length e.rep
theorem av_app {b : Addr} : Av S (α ++ β) b → Av S α b ∨ ∃ l ∈ β, b ∈ l := fun h => by
  rcases h with h | ⟨l, hl, hb⟩
  · exact .inl (.inl h)
  · rcases List.mem_append.mp hl with q | q
    · exact .inl (.inr ⟨l, q, hb⟩)
    · exact .inr ⟨l, q, hb⟩
theorem av_mono {b : Addr} (h : Av S α b) : Av S (α ++ β) b := by
  rcases h with h | ⟨l, hl, hb⟩
  · exact .inl h
  · exact .inr ⟨l, List.mem_append_left _ hl, hb⟩
/-- a value that was read stays the same value -/
theorem Rep.up {d : D} {v : V} (r : Rep W (Av S α) H d v) (g : Gr α β H H') : Rep W (Av S (α ++ β)) H' d v := by
  refine Rep.tr (fun b hb => ?_) (fun b o n e => g.kp b o (fun l hl z => n (.inr ⟨l, hl, z⟩)) e) d v r
  rcases av_app hb with q | ⟨l, hl, q⟩
  · exact .inl q
  · exact .inr (g.fr l hl b q)
theorem Reps.up {ds : List D} {vs : List V} (r : Reps W (Av S α) H ds vs) (g : Gr α β H H') : Reps W (Av S (α ++ β)) H' ds vs := by
  refine Reps.tr (fun b hb => ?_) (fun b o n e => g.kp b o (fun l hl z => n (.inr ⟨l, hl, z⟩)) e) ds vs r
  rcases av_app hb with q | ⟨l, hl, q⟩
  · exact .inl q
  · exact .inr (g.fr l hl b q)
theorem get_app {α β : Als} {k : Nat} {l : List Addr} (h : α[k]? = some l) : (α ++ β)[k]? = some l := by
  rw [List.getElem?_append_left (List.getElem?_eq_some_iff.mp h).1]; exact h
theorem RepA.up {a : AV} {v : V} (r : RepA W S α H a v) (g : Gr α β H H') : RepA W S (α ++ β) H' a v := by
  cases a with
  | d x => exact Rep.up (show Rep W (Av S α) H x v from r) g
  | m k => obtain ⟨p, l, h, e⟩ := (show ∃ p l, α[k]? = some (p :: l) ∧ v = .ref p from r); exact ⟨p, l, get_app h, e⟩
theorem Ev.up (e : Ev W S α ρ M σ H) (g : Gr α β H H') (e' : EM W S (α ++ β) M' H') : Ev W S (α ++ β) ρ M' σ H' :=
  ⟨e', e.len, fun i a hi => let ⟨v, h1, h2⟩ := e.sl i a hi; ⟨v, h1, h2.up g⟩⟩
/-- the heap goes on, the store as it was -/
theorem EM.on (e : EM W S α M H) (h : Same H H') : EM W S α M H' := by
  refine ⟨?_, e.nd, fun b hb => ?_⟩
  · refine Paired.mapP e.rep fun m l r => r.tr (fun b hb => .inl hb) (fun b o _ q => h b o q) fun b o _ q => h b o q
  · cases q : H b with
    | none => exact absurd q (e.trk b hb)
    | some o => rw [h b o q]; simp
theorem same_new {p : Addr} {o : HO} (h : H p = none) : Same H (upd H p o) := fun b x e => by
  rw [upd_ne (ne_of_none e h)]; exact e
theorem app_nil (α : Als) : α ++ [] = α := List.append_nil α
theorem EM.on' (e : EM W S α M H) (h : Same H H') : EM W S (α ++ []) M H' := by rw [app_nil]; exact e.on h
/-- a fresh address is away from all that is avoided -/
theorem EM.off (e : EM W S α M H) {p : Addr} (h : H p = none) : ¬ Av S α p := fun z => e.trA p z h
theorem LSq.of {p : Addr} {vs : List V} {T : Addr → Prop} (n : ¬ T p) (h : H p = some (.lst vs)) : LSq W T H p vs := .inl ⟨n, .inl h⟩
theorem TSq.of {p : Addr} {vs : List V} {T : Addr → Prop} {o : Obj} (n : ¬ T p) (hd : o.dict = none) (h : H p = some (.frz o (.tup vs))) : TSq W T H p vs := .inl ⟨n, o, h, hd⟩
theorem TSw.of {p : Addr} {vs : List V} {T : Addr → Prop} (n : ¬ T p) (h : H p = some (.tup vs)) : TSw W T H p vs := ⟨n, .inl h⟩
end

/-! ### universal readings -/
section
variable (X : Cx)
def uE (e : Expr) : TE := fun σ H Q => ∀ pins s, Inv X pins σ H s → wpAny (model X.prog X.w) X.A (eval e X.env) (EP X pins σ Q) X.xe s
def uT (e : Expr) : TT := fun σ H Q => ∀ pins s, Inv X pins σ H s → wpAny (model X.prog X.w) X.A (isTrue e X.env (eval e X.env)) (TP X pins σ Q) X.xe s
def uA (es : List Expr) : TA := fun σ H Q => ∀ pos pins s, Inv X pins σ H s → wpAny (model X.prog X.w) X.A (spliced (backTo pos (starEach es X.env))) (AP X pins σ Q) X.xe s
def uS (st : Stmt) : TS := fun D σ H => ∀ pins s, Inv X pins σ H s → wpAny (model X.prog X.w) X.A (exec st X.env) (SP X pins D) X.xe s
def uSs (st : List Stmt) : TS := fun D σ H => ∀ pins s, Inv X pins σ H s → wpAny (model X.prog X.w) X.A (execs st X.env) (SP X pins D) X.xe s
def uG (tg : Expr) : TG := fun v σ H Q => ∀ pins s u, Inv X pins σ H s → RelV v u → wpAny (model X.prog X.w) X.A (assign tg X.env u) (fun _ s' => ∃ σ' H', Inv X pins σ' H' s' ∧ Q σ' H') X.xe s
def uO (f : Value → Value → Sem Value) : R2 := fun x y H Q => ∀ pins s σ v u, Inv X pins σ H s → RelV x v → RelV y u → wpAny (model X.prog X.w) X.A (f v u) (EP X pins σ Q) X.xe s
def uU (f : Value → Sem Value) : V → Hp → VK → Prop := fun x H Q => ∀ pins s σ v, Inv X pins σ H s → RelV x v → wpAny (model X.prog X.w) X.A (f v) (EP X pins σ Q) X.xe s
def uC (f : Value) : List V → Hp → VK → Prop := fun xs H Q => ∀ pins s σ us, Inv X pins σ H s → Vals xs us → wpAny (model X.prog X.w) X.A (call f us) (EP X pins σ Q) X.xe s
end
section
variable {X : Cx} {e : Expr} {es : List Expr} {st : Stmt} {sts : List Stmt}
theorem pe_u : PE X e (uE X e) := ⟨fun pins s _ _ _ I h => h pins s I⟩
theorem pt_u : PT X e (uT X e) := ⟨fun pins s _ _ _ I h => h pins s I⟩
theorem pa_u : PA X es (uA X es) := ⟨fun pos pins s _ _ _ I h => h pos pins s I⟩
theorem ps_u : PS X st (uS X st) := ⟨fun pins s _ _ _ I h => h pins s I⟩
theorem pss_u : PSs X sts (uSs X sts) := ⟨fun pins s _ _ _ I h => h pins s I⟩
theorem pg_u : PG X e (uG X e) := ⟨fun pins s _ _ _ u _ I r h => h pins s u I r⟩
theorem op_u {f : Value → Value → Sem Value} : OpR X f (uO X f) := fun pins s σ _ _ _ v u _ I rx ry h => h pins s σ v u I rx ry
theorem un_u {f : Value → Sem Value} : UnR X f (uU X f) := fun pins s σ _ _ v _ I rx h => h pins s σ v I rx
theorem call_u {f : Value} : CallR X f (uC X f) := fun pins s σ _ _ us _ I r h => h pins s σ us I r
variable {σ : L2.St} {H : Hp} {Q : VK}
theorem uE_of {t : TE} (p : PE X e t) (h : t σ H Q) : uE X e σ H Q := fun pins s I => p.run pins s σ H Q I h
theorem uT_of {t : TT} {Q : Bool → Hp → Prop} (p : PT X e t) (h : t σ H Q) : uT X e σ H Q := fun pins s I => p.run pins s σ H Q I h
theorem uA_of {t : TA} {Q : List V → Hp → Prop} (p : PA X es t) (h : t σ H Q) : uA X es σ H Q := fun pos pins s I => p.run pos pins s σ H Q I h
theorem uS_of {t : TS} {D : Ends} (p : PS X st t) (h : t D σ H) : uS X st D σ H := fun pins s I => p.run pins s σ H D I h
theorem uSs_of {t : TS} {D : Ends} (p : PSs X sts t) (h : t D σ H) : uSs X sts D σ H := fun pins s I => p.run pins s σ H D I h
theorem uG_of {t : TG} {v : V} {Q : L2.St → Hp → Prop} (p : PG X e t) (h : t v σ H Q) : uG X e v σ H Q := fun pins s u I r => p.run pins s σ H v u Q I r h
theorem uO_of {f : Value → Value → Sem Value} {r : R2} {x y : V} (p : OpR X f r) (h : r x y H Q) : uO X f x y H Q := fun pins s σ v u I rx ry => p pins s σ H x y v u Q I rx ry h
theorem uU_of {f : Value → Sem Value} {r : V → Hp → VK → Prop} {x : V} (p : UnR X f r) (h : r x H Q) : uU X f x H Q := fun pins s σ v I rx => p pins s σ H x v Q I rx h
theorem uC_of {f : Value} {r : List V → Hp → VK → Prop} {xs : List V} (p : CallR X f r) (h : r xs H Q) : uC X f xs H Q := fun pins s σ us I rx => p pins s σ H xs us Q I rx h
end
end Dl

/-! DL2: the judgements over data, the rules of names, constants, blocks, ifs, loops. -/
namespace Dl
open PySem L2

/-- what is wanted of an exception: its class, its fields, the names, the store -/
abbrev XP := Nat → List D → Rho → Mm → Prop
structure Ctx where
  X : Cx
  W : Wd
  n0 : Nat
  T : XP
/-- a raised exception of class c -/
def XRep (W : Wd) (S : Addr → Prop) (H : Hp) (c : Nat) (ds : List D) (cls : Value) (dA : Option Addr) : Prop :=
  cls = .ref (W.ca c) ∧ ((ds = [] ∧ W.cf c = [] ∧ dA = none) ∨ ∃ dd vs, dA = some dd ∧ ¬ S dd ∧ H dd = some (.xd ((W.cf c).zip vs)) ∧ vs.length = (W.cf c).length ∧ Reps W S H ds vs)
/-- since the anchor -/
def Gr0 (α0 α : Als) (H0 H : Hp) : Prop := ∃ β, α = α0 ++ β ∧ Gr α0 β H0 H
structure Bs (C : Ctx) (S : Addr → Prop) (α0 : Als) (H0 : Hp) : Prop where
  len : α0.length = C.n0
  trk : ∀ b, Av S α0 b → H0 b ≠ none
  tk : ∃ Wx : WX, Takes C.X Wx ∧ ∀ c ds ρ M α σ H cls dA, C.T c ds ρ M → Ev C.W S α ρ M σ H → Gr0 α0 α H0 H → XRep C.W (Av S α) H c ds cls dA → Wx cls dA σ H

def RepsA (W : Wd) (S : Addr → Prop) (α : Als) (H : Hp) : List AV → List V → Prop
  | [], vs => vs = []
  | a :: as, vs => ∃ v r, vs = v :: r ∧ RepA W S α H a v ∧ RepsA W S α H as r

/-- an expression: Ψ holds of its value and of the store behind it -/
structure WE (C : Ctx) (e : Expr) (ρ : Rho) (M : Mm) (Ψ : AV → Mm → Prop) : Prop where
  run : ∀ S α0 H0 α σ H (Q : VK), Bs C S α0 H0 → Gr0 α0 α H0 H → Ev C.W S α ρ M σ H →
    (∀ a M' β v H', Ψ a M' → EM C.W S (α ++ β) M' H' → Gr α β H H' → RepA C.W S (α ++ β) H' a v → Q v H') → uE C.X e σ H Q
structure WT (C : Ctx) (e : Expr) (ρ : Rho) (M : Mm) (Ψ : Bool → Mm → Prop) : Prop where
  run : ∀ S α0 H0 α σ H (Q : Bool → Hp → Prop), Bs C S α0 H0 → Gr0 α0 α H0 H → Ev C.W S α ρ M σ H →
    (∀ b M' β H', Ψ b M' → EM C.W S (α ++ β) M' H' → Gr α β H H' → Q b H') → uT C.X e σ H Q
structure WA (C : Ctx) (es : List Expr) (ρ : Rho) (M : Mm) (Ψ : List AV → Mm → Prop) : Prop where
  run : ∀ S α0 H0 α σ H (Q : List V → Hp → Prop), Bs C S α0 H0 → Gr0 α0 α H0 H → Ev C.W S α ρ M σ H →
    (∀ as M' β vs H', Ψ as M' → EM C.W S (α ++ β) M' H' → Gr α β H H' → RepsA C.W S (α ++ β) H' as vs → Q vs H') → uA C.X es σ H Q
/-- an operation of two values, of one, a call of a built-in thing -/
structure WO (C : Ctx) (f : Value → Value → Sem Value) (x y : AV) (M : Mm) (Ψ : AV → Mm → Prop) : Prop where
  run : ∀ S α H (Q : VK) v u, EM C.W S α M H → RepA C.W S α H x v → RepA C.W S α H y u →
    (∀ a M' β w H', Ψ a M' → EM C.W S (α ++ β) M' H' → Gr α β H H' → RepA C.W S (α ++ β) H' a w → Q w H') → uO C.X f v u H Q
structure WU (C : Ctx) (f : Value → Sem Value) (x : AV) (M : Mm) (Ψ : AV → Mm → Prop) : Prop where
  run : ∀ S α H (Q : VK) v, EM C.W S α M H → RepA C.W S α H x v →
    (∀ a M' β w H', Ψ a M' → EM C.W S (α ++ β) M' H' → Gr α β H H' → RepA C.W S (α ++ β) H' a w → Q w H') → uU C.X f v H Q
structure WC (C : Ctx) (f : Value) (as : List AV) (M : Mm) (Ψ : AV → Mm → Prop) : Prop where
  run : ∀ S α H (Q : VK) vs, EM C.W S α M H → RepsA C.W S α H as vs →
    (∀ a M' β w H', Ψ a M' → EM C.W S (α ++ β) M' H' → Gr α β H H' → RepA C.W S (α ++ β) H' a w → Q w H') → uC C.X f vs H Q

/-- what is wanted behind a statement -/
structure Kn where
  nx : Rho → Mm → Prop
  rt : AV → Mm → Prop
  bk : Rho → Mm → Prop := fun _ _ => False
  ct : Rho → Mm → Prop := fun _ _ => False
structure Fin (C : Ctx) (S : Addr → Prop) (α0 : Als) (H0 : Hp) (Φ : Kn) (D : Ends) : Prop where
  nx : ∀ ρ M α σ H, Φ.nx ρ M → Ev C.W S α ρ M σ H → Gr0 α0 α H0 H → D.nx σ H
  rt : ∀ a M α v H, Φ.rt a M → EM C.W S α M H → Gr0 α0 α H0 H → RepA C.W S α H a v → D.rt v H
  bk : ∀ ρ M α σ H, Φ.bk ρ M → Ev C.W S α ρ M σ H → Gr0 α0 α H0 H → D.bk σ H
  ct : ∀ ρ M α σ H, Φ.ct ρ M → Ev C.W S α ρ M σ H → Gr0 α0 α H0 H → D.ct σ H
structure W1 (C : Ctx) (st : Stmt) (ρ : Rho) (M : Mm) (Φ : Kn) : Prop where
  run : ∀ S α0 H0 α σ H D, Bs C S α0 H0 → Gr0 α0 α H0 H → Ev C.W S α ρ M σ H → Fin C S α0 H0 Φ D → uS C.X st D σ H
structure WS (C : Ctx) (sts : List Stmt) (ρ : Rho) (M : Mm) (Φ : Kn) : Prop where
  run : ∀ S α0 H0 α σ H D, Bs C S α0 H0 → Gr0 α0 α H0 H → Ev C.W S α ρ M σ H → Fin C S α0 H0 Φ D → uSs C.X sts D σ H
/-- a target is given a value -/
structure WG (C : Ctx) (tg : Expr) (a : AV) (ρ : Rho) (M : Mm) (Ψ : Rho → Mm → Prop) : Prop where
  run : ∀ S α σ H (Q : L2.St → Hp → Prop) v, Ev C.W S α ρ M σ H → RepA C.W S α H a v →
    (∀ ρ' M' β σ' H', Ψ ρ' M' → Ev C.W S (α ++ β) ρ' M' σ' H' → Gr α β H H' → Q σ' H') → uG C.X tg v σ H Q

/-- what is known of the place where one stands -/
structure Cok (C : Ctx) (P : Program) (w : World) (K : PySem.W.Frag) (mg : Str → Option Value) (base : Heap) (N gs : List Str) (Vi Li : List Nat) (k : Nat) : Prop where
  prog : C.X.prog = P
  wE : C.X.w = w
  kE : C.X.K = K
  mgE : C.X.mg = mg
  baseE : C.X.base = base
  WK : C.W.K = K
  nE : C.X.N = N
  nd : N.Nodup
  vis : ∀ i x, i ∈ Vi → N[i]? = some x → Vis C.X.env.scope x
  loc : ∀ i x, i ∈ Li → N[i]? = some x → Loc C.X.env.scope x ∧ (C.X.fn x = true ∨ C.X.env.scope.names.lookup x = some .local)
  gl : ∀ (i : Nat) x, gs[i]? = some x → Gl C.X x
  calm : C.X.calm = true
  room : Room k C.X.A

section
variable {W : Wd} {S : Addr → Prop} {α β γ : Als} {ρ : Rho} {M M' : Mm} {σ : L2.St} {H H' H1 H2 H0 : Hp} {α0 : Als}
theorem Gr0.refl : Gr0 α α H H := ⟨[], (app_nil α).symm, Gr.refl⟩
theorem Gr0.trans (h : Gr0 α0 α H0 H) (g : Gr α β H H') : Gr0 α0 (α ++ β) H0 H' := by
  obtain ⟨γ, e, g0⟩ := h
  subst e
  exact ⟨γ ++ β, List.append_assoc _ _ _, g0.trans g⟩
theorem RepsA.up : ∀ {as : List AV} {vs : List V}, RepsA W S α H as vs → Gr α β H H' → RepsA W S (α ++ β) H' as vs
  | [], vs, r, g => r
  | a :: as, vs, r, g => by
    obtain ⟨v, r, e, h, t⟩ := (show ∃ v r, vs = v :: r ∧ RepA W S α H a v ∧ RepsA W S α H as r from r)
    exact ⟨v, r, e, h.up g, RepsA.up t g⟩
end

section
variable {C : Ctx} {e : Expr} {es : List Expr} {st : Stmt} {sts : List Stmt} {ρ : Rho} {M : Mm} {Φ Φ' : Kn} {Ψ Ψ' : AV → Mm → Prop}
theorem WE.mono (h : WE C e ρ M Ψ) (k : ∀ a M', Ψ a M' → Ψ' a M') : WE C e ρ M Ψ' :=
  ⟨fun S α0 H0 α σ H Q b g ev q => h.run S α0 H0 α σ H Q b g ev fun a M' β v H' p => q a M' β v H' (k a M' p)⟩
theorem WO.mono {f x y} (h : WO C f x y M Ψ) (k : ∀ a M', Ψ a M' → Ψ' a M') : WO C f x y M Ψ' :=
  ⟨fun S α H Q v u e1 e2 e3 q => h.run S α H Q v u e1 e2 e3 fun a M' β v H' p => q a M' β v H' (k a M' p)⟩
theorem WC.mono {f as} (h : WC C f as M Ψ) (k : ∀ a M', Ψ a M' → Ψ' a M') : WC C f as M Ψ' :=
  ⟨fun S α H Q vs e1 e2 q => h.run S α H Q vs e1 e2 fun a M' β v H' p => q a M' β v H' (k a M' p)⟩
theorem Fin.mono {S : Addr → Prop} {α0 : Als} {H0 : Hp} {D : Ends} (f : Fin C S α0 H0 Φ D) (h1 : ∀ ρ M, Φ'.nx ρ M → Φ.nx ρ M) (h2 : ∀ a M, Φ'.rt a M → Φ.rt a M) (h3 : ∀ ρ M, Φ'.bk ρ M → Φ.bk ρ M) (h4 : ∀ ρ M, Φ'.ct ρ M → Φ.ct ρ M) : Fin C S α0 H0 Φ' D :=
  ⟨fun ρ M α σ H p => f.nx ρ M α σ H (h1 _ _ p), fun a M α v H p => f.rt a M α v H (h2 _ _ p), fun ρ M α σ H p => f.bk ρ M α σ H (h3 _ _ p), fun ρ M α σ H p => f.ct ρ M α σ H (h4 _ _ p)⟩
theorem WS.mono (h : WS C sts ρ M Φ') (h1 : ∀ ρ M, Φ'.nx ρ M → Φ.nx ρ M) (h2 : ∀ a M, Φ'.rt a M → Φ.rt a M) (h3 : ∀ ρ M, Φ'.bk ρ M → Φ.bk ρ M) (h4 : ∀ ρ M, Φ'.ct ρ M → Φ.ct ρ M) : WS C sts ρ M Φ :=
  ⟨fun S α0 H0 α σ H D b g ev f => h.run S α0 H0 α σ H D b g ev (f.mono h1 h2 h3 h4)⟩

/-! ### blocks -/
theorem ws_nil (h : Φ.nx ρ M) : WS C [] ρ M Φ :=
  ⟨fun S α0 H0 α σ H D b g ev f => uSs_of pss_nil (f.nx ρ M α σ H h ev g)⟩
theorem ws_cons (h : W1 C st ρ M { Φ with nx := fun ρ' M' => WS C sts ρ' M' Φ }) : WS C (st :: sts) ρ M Φ := by
  refine ⟨fun S α0 H0 α σ H D b g ev f => uSs_of (pss_cons ps_u pss_u) ?_⟩
  show uS C.X st { D with nx := uSs C.X sts D } σ H
  refine h.run S α0 H0 α σ H _ b g ev ⟨fun ρ' M' α' σ' H' p ev' g' => p.run S α0 H0 α' σ' H' D b g' ev' f, f.rt, f.bk, f.ct⟩
theorem ws_one (h : W1 C st ρ M Φ) : WS C [st] ρ M Φ :=
  ⟨fun S α0 H0 α σ H D b g ev f => uSs_of (pss_one ps_u) (h.run S α0 H0 α σ H D b g ev f)⟩
/-- code that is never come to -/
theorem ws_never (h : False) : WS C sts ρ M Φ := h.elim

theorem w1_pass {pos : Pos} (h : Φ.nx ρ M) : W1 C (.Pass pos) ρ M Φ := ⟨fun S α0 H0 α σ H D b g ev f => uS_of ps_pass (f.nx ρ M α σ H h ev g)⟩
theorem w1_break {pos : Pos} (h : Φ.bk ρ M) : W1 C (.Break pos) ρ M Φ := ⟨fun S α0 H0 α σ H D b g ev f => uS_of ps_break (f.bk ρ M α σ H h ev g)⟩
theorem w1_continue {pos : Pos} (h : Φ.ct ρ M) : W1 C (.Continue pos) ρ M Φ := ⟨fun S α0 H0 α σ H D b g ev f => uS_of ps_continue (f.ct ρ M α σ H h ev g)⟩
theorem w1_expr {pos : Pos} (h : WE C e ρ M fun _ M' => Φ.nx ρ M') (hs : swapsWith e none pos.line C.X.env = pure false := by rfl) : W1 C (.Expr e pos) ρ M Φ := by
  refine ⟨fun S α0 H0 α σ H D b g ev f => uS_of (ps_expr pe_u hs) ?_⟩
  show uE C.X e σ H fun _ H1 => D.nx σ H1
  exact h.run S α0 H0 α σ H _ b g ev fun a M' β v H' p e' g' r => f.nx ρ M' (α ++ β) σ H' p (ev.up g' e') (g.trans g')

/-! ### the end of a def: what it made itself is let go, or handed over -/
def Clo (n0 : Nat) (a : AV) (M : Mm) (R : AV → Mm → Prop) : Prop := match a with
  | .d x => R (.d x) (M.take n0)
  | .m k => if k < n0 then R (.m k) (M.take n0) else match M[k]? with
    | some (.l ds) => R (.d (.lst ds)) (M.take n0)
    | some (.k ks ds) => R (.d (.dk ks ds)) (M.take n0)
    | _ => False
end
section
variable {W : Wd} {S : Addr → Prop} {α β γ α0 : Als} {ρ : Rho} {M M' : Mm} {σ : L2.St} {H H' H1 H2 H0 : Hp} {x y : AV} {v : V}
theorem paired_take {T : MO → List Addr → Prop} : ∀ {M : Mm} {α : Als} (n : Nat), Paired T M α → Paired T (M.take n) (α.take n)
  | _, _, 0, _ => by simp; exact .nil
  | _, _, _ + 1, .nil => by simp; exact .nil
  | _, _, n + 1, .cons r t => by simp; exact .cons r (paired_take n t)
theorem paired_get {T : MO → List Addr → Prop} : ∀ {M : Mm} {α : Als} {k : Nat} {m : MO}, Paired T M α → M[k]? = some m → ∃ l, α[k]? = some l ∧ T m l
  | _, _, _, _, .nil, h => by simp at h
  | _, _, 0, _, .cons r t, h => by simp at h; subst h; exact ⟨_, rfl, r⟩
  | _, _, k + 1, _, .cons r t, h => by
    obtain ⟨l, h1, h2⟩ := paired_get (k := k) t (by simpa using h)
    exact ⟨l, by simpa using h1, h2⟩
theorem paired_set {T : MO → List Addr → Prop} {m : MO} {l : List Addr} (h : T m l) : ∀ {M : Mm} {α : Als} (k : Nat), Paired T M α → α[k]? = some l → Paired T (M.set k m) α
  | _, _, _, .nil, _ => .nil
  | _, _, 0, .cons r t, e => by simp at e; subst e; exact .cons h t
  | _, _, k + 1, .cons r t, e => .cons r (paired_set h k t (by simpa using e))
theorem paired_app {T : MO → List Addr → Prop} : ∀ {M M' : Mm} {α β : Als}, Paired T M α → Paired T M' β → Paired T (M ++ M') (α ++ β)
  | _, _, _, _, .nil, s => s
  | _, _, _, _, .cons r t, s => .cons r (paired_app t s)
theorem av_less {b : Addr} {α' : Als} (h : ∀ l ∈ α', l ∈ α) (z : Av S α' b) : Av S α b := by
  rcases z with z | ⟨l, hl, hb⟩
  · exact .inl z
  · exact .inr ⟨l, h l hl, hb⟩
theorem Rep.less {d : D} {v : V} {S' : Addr → Prop} (h : ∀ b, S' b → S b) (r : Rep W S H d v) : Rep W S' H d v := Rep.tr (fun b z => .inl (h b z)) (fun _ _ _ e => e) d v r
theorem Reps.less {d : List D} {v : List V} {S' : Addr → Prop} (h : ∀ b, S' b → S b) (r : Reps W S H d v) : Reps W S' H d v := Reps.tr (fun b z => .inl (h b z)) (fun _ _ _ e => e) d v r
theorem flatten_take_sub (α : Als) (n : Nat) : (α.take n).flatten.Sublist α.flatten := by
  have e : α.flatten = (α.take n).flatten ++ (α.drop n).flatten := by rw [← List.flatten_append, List.take_append_drop]
  rw [e]; exact List.sublist_append_left _ _
/-- the store cut to its first things -/
theorem EM.take (e : EM W S α M H) (n : Nat) : EM W S (α.take n) (M.take n) H := by
  refine ⟨?_, e.nd.sublist (flatten_take_sub α n), e.trk⟩
  refine Paired.mapP (paired_take n e.rep) fun m l r => r.tr (fun b hb => .inl (av_less (fun l hl => List.mem_of_mem_take hl) hb)) (fun _ _ _ z => z) fun _ _ _ z => z
theorem Gr0.take (g : Gr0 α0 α H0 H) : Gr0 α0 (α.take α0.length) H0 H := by
  obtain ⟨β, e, g⟩ := g
  subst e
  refine ⟨[], by simp, ⟨g.kp, g.st, fun l hl => by simp at hl⟩⟩
theorem nodup_flat_ne {α : Als} (h : α.flatten.Nodup) {i j : Nat} {l l' : List Addr} {b : Addr} (hi : α[i]? = some l) (hj : α[j]? = some l') (hb : b ∈ l) (hb' : b ∈ l') : i = j := by
  induction α generalizing i j with
  | nil => simp at hi
  | cons a r ih =>
    rw [List.flatten_cons, List.nodup_append] at h
    obtain ⟨h1, h2, h3⟩ := h
    have mem : ∀ {i : Nat} {l : List Addr}, r[i]? = some l → b ∈ l → b ∈ r.flatten := fun e m => List.mem_flatten.mpr ⟨_, List.mem_of_getElem? e, m⟩
    cases i with
    | zero =>
      cases j with
      | zero => rfl
      | succ j =>
        simp at hi; subst hi
        exact absurd rfl (h3 b hb b (mem (by simpa using hj) hb'))
    | succ i =>
      cases j with
      | zero =>
        simp at hj; subst hj
        exact absurd rfl (h3 b hb' b (mem (by simpa using hi) hb))
      | succ j => exact congrArg (· + 1) (ih h2 (by simpa using hi) (by simpa using hj))
end
section
variable {C : Ctx} {e : Expr} {ρ : Rho} {M : Mm} {Φ : Kn}
theorem clo_ok {S : Addr → Prop} {α0 α : Als} {H0 H : Hp} {a : AV} {v : V} {R : AV → Mm → Prop} (b : Bs C S α0 H0) (g : Gr0 α0 α H0 H) (em : EM C.W S α M H) (r : RepA C.W S α H a v) (c : Clo C.n0 a M R) :
    ∃ a' M' α', R a' M' ∧ EM C.W S α' M' H ∧ Gr0 α0 α' H0 H ∧ RepA C.W S α' H a' v := by
  have e0 := b.len
  have less : ∀ z, Av S (α.take C.n0) z → Av S α z := fun z h => av_less (fun l hl => List.mem_of_mem_take hl) h
  have g' : Gr0 α0 (α.take C.n0) H0 H := by rw [← e0]; exact g.take
  cases a with
  | d x => exact ⟨.d x, _, _, c, em.take _, g', Rep.less less (show Rep C.W (Av S α) H x v from r)⟩
  | m k =>
    have c' : (if k < C.n0 then R (.m k) (M.take C.n0) else match M[k]? with
      | some (.l ds) => R (.d (.lst ds)) (M.take C.n0)
      | some (.k ks ds) => R (.d (.dk ks ds)) (M.take C.n0)
      | _ => False) := c
    obtain ⟨p, l, hp, ev⟩ := (show ∃ p l, α[k]? = some (p :: l) ∧ v = .ref p from r)
    by_cases hk : k < C.n0
    · rw [if_pos hk] at c'
      exact ⟨.m k, _, _, c', em.take _, g', p, l, by rw [List.getElem?_take_of_lt hk]; exact hp, ev⟩
    · rw [if_neg hk] at c'
      -- a thing that was made here: away from all that is to be avoided
      have off : ¬ Av S (α.take C.n0) p := fun z => by
        obtain ⟨β, e, g1⟩ := g
        have t : H0 p ≠ none := b.trk p (by
          have e2 : α.take C.n0 = α0 := by rw [e, ← e0]; simp
          rw [e2] at z; exact z)
        have hl : (p :: l) ∈ β := by
          rw [e, List.getElem?_append_right (by rw [e0]; exact Nat.le_of_not_lt hk)] at hp
          exact List.mem_of_getElem? hp
        exact t (g1.fr _ hl p List.mem_cons_self)
      cases q : M[k]? with
      | none => rw [q] at c'; exact c'.elim
      | some m =>
        rw [q] at c'
        obtain ⟨l', h1, h2⟩ := paired_get em.rep q
        rw [hp] at h1; cases h1
        cases m with
        | l ds =>
          obtain ⟨p', vs, ep, hh, rr⟩ := h2
          cases ep
          exact ⟨_, _, _, c', em.take _, g', p, vs, ev, LSq.of off hh, Reps.less less rr⟩
        | k ks ds =>
          obtain ⟨p', vs, ep, hh, hl, rr⟩ := h2
          cases ep
          exact ⟨_, _, _, c', em.take _, g', p, vs, ev, off, hh, hl, Reps.less less rr⟩
        | o c ds => exact c'.elim
        | dead => exact c'.elim
theorem w1_ret {pos : Pos} (h : WE C e ρ M fun a M' => Clo C.n0 a M' Φ.rt) : W1 C (.Return (some e) pos) ρ M Φ := by
  refine ⟨fun S α0 H0 α σ H D b g ev f => uS_of (ps_ret pe_u) ?_⟩
  show uE C.X e σ H D.rt
  refine h.run S α0 H0 α σ H _ b g ev fun a M' β v H' p e' g' r => ?_
  obtain ⟨a', M2, α', h1, h2, h3, h4⟩ := clo_ok b (g.trans g') e' r p
  exact f.rt a' M2 α' v H' h1 h2 h3 h4
theorem w1_retN {pos : Pos} (h : Φ.rt (.d .non) (M.take C.n0)) : W1 C (.Return none pos) ρ M Φ := by
  refine ⟨fun S α0 H0 α σ H D b g ev f => uS_of ps_retN ?_⟩
  show D.rt .non H
  obtain ⟨a', M2, α', h1, h2, h3, h4⟩ := clo_ok (a := .d .non) (v := .non) (R := Φ.rt) b g ev.em rfl h
  exact f.rt a' M2 α' .non H h1 h2 h3 h4
/-- the newest things are forgotten -/
theorem ws_drop {sts : List Stmt} (n : Nat) (hn : C.n0 ≤ n) (hρ : ∀ (i k : Nat), ρ[i]? = some (some (AV.m k)) → k < n) (h : WS C sts ρ (M.take n) Φ) : WS C sts ρ M Φ := by
  refine ⟨fun S α0 H0 α σ H D b g ev f => h.run S α0 H0 (α.take n) σ H D b ?_ ⟨ev.em.take n, ev.len, fun i a hi => ?_⟩ f⟩
  · obtain ⟨β, e, g1⟩ := g
    subst e
    refine ⟨β.take (n - α0.length), ?_, g1.kp, g1.st, fun l hl => g1.fr l (List.mem_of_mem_take hl)⟩
    rw [List.take_append, List.take_of_length_le (by rw [b.len]; exact hn)]
  · obtain ⟨v, h1, h2⟩ := ev.sl i a hi
    refine ⟨v, h1, ?_⟩
    cases a with
    | d x => exact Rep.less (fun z hz => av_less (fun l hl => List.mem_of_mem_take hl) hz) (show Rep C.W (Av S α) H x v from h2)
    | m k =>
      obtain ⟨p, l, hp, e⟩ := (show ∃ p l, α[k]? = some (p :: l) ∧ v = .ref p from h2)
      exact ⟨p, l, by rw [List.getElem?_take_of_lt (hρ i k hi)]; exact hp, e⟩
end
end Dl

/-! DL3: rules of expressions, tests, calls over data. -/
namespace Dl
open PySem L2

section
variable {C : Ctx} {S : Addr → Prop} {α β : Als} {H H1 : Hp} {Ψ : AV → Mm → Prop} {Q : VK}
abbrev PostE (C : Ctx) (S : Addr → Prop) (α : Als) (H : Hp) (Ψ : AV → Mm → Prop) (Q : VK) : Prop :=
  ∀ a M' β v H', Ψ a M' → EM C.W S (α ++ β) M' H' → Gr α β H H' → RepA C.W S (α ++ β) H' a v → Q v H'
abbrev PostT (C : Ctx) (S : Addr → Prop) (α : Als) (H : Hp) (Ψ : Bool → Mm → Prop) (Q : Bool → Hp → Prop) : Prop :=
  ∀ b M' β H', Ψ b M' → EM C.W S (α ++ β) M' H' → Gr α β H H' → Q b H'
abbrev PostA (C : Ctx) (S : Addr → Prop) (α : Als) (H : Hp) (Ψ : List AV → Mm → Prop) (Q : List V → Hp → Prop) : Prop :=
  ∀ as M' β vs H', Ψ as M' → EM C.W S (α ++ β) M' H' → Gr α β H H' → RepsA C.W S (α ++ β) H' as vs → Q vs H'
theorem thnE (q : PostE C S α H Ψ Q) (g : Gr α β H H1) : PostE C S (α ++ β) H1 Ψ Q := fun a M' γ v H' p em g2 r =>
  q a M' (β ++ γ) v H' p (by rw [← List.append_assoc]; exact em) (g.trans g2) (by rw [← List.append_assoc]; exact r)
theorem thnT {Ψ : Bool → Mm → Prop} {Q : Bool → Hp → Prop} (q : PostT C S α H Ψ Q) (g : Gr α β H H1) : PostT C S (α ++ β) H1 Ψ Q := fun b M' γ H' p em g2 =>
  q b M' (β ++ γ) H' p (by rw [← List.append_assoc]; exact em) (g.trans g2)
theorem thnA {Ψ : List AV → Mm → Prop} {Q : List V → Hp → Prop} (q : PostA C S α H Ψ Q) (g : Gr α β H H1) : PostA C S (α ++ β) H1 Ψ Q := fun as M' γ vs H' p em g2 r =>
  q as M' (β ++ γ) vs H' p (by rw [← List.append_assoc]; exact em) (g.trans g2) (by rw [← List.append_assoc]; exact r)
/-- nothing is changed -/
theorem stayE {M : Mm} {a : AV} {v : V} (em : EM C.W S α M H) (q : PostE C S α H Ψ Q) (r : RepA C.W S α H a v) (h : Ψ a M) : Q v H :=
  q a M [] v H h (by rw [app_nil]; exact em) Gr.refl (by rw [app_nil]; exact r)
theorem stayT {M : Mm} {b : Bool} {Ψ : Bool → Mm → Prop} {Q : Bool → Hp → Prop} (em : EM C.W S α M H) (q : PostT C S α H Ψ Q) (h : Ψ b M) : Q b H :=
  q b M [] H h (by rw [app_nil]; exact em) Gr.refl
/-- a new object is laid that is a value -/
theorem newE {M : Mm} {x : D} {v : V} {p : Addr} {o : HO} (em : EM C.W S α M H) (q : PostE C S α H Ψ Q) (hp : H p = none) (r : Rep C.W (Av S α) (upd H p o) x v) (h : Ψ (.d x) M) : Q v (upd H p o) :=
  q (.d x) M [] v _ h (em.on' (same_new hp)) (Gr.same (same_new hp)) (show Rep C.W (Av S (α ++ [])) _ x v by rw [app_nil]; exact r)
/-- a new object is laid that is a new thing of the store -/
theorem newM {M : Mm} {m : MO} {p : Addr} {o : HO} (em : EM C.W S α M H) (q : PostE C S α H Ψ Q) (hp : H p = none) (r : MRep C.W (Av S (α ++ [[p]])) (upd H p o) m [p]) (h : Ψ (.m M.length) (M ++ [m])) : Q (.ref p) (upd H p o) := by
  have sm := same_new (o := o) hp
  have g : Gr α [[p]] H (upd H p o) := ⟨fun b o _ e => sm b o e, (Gr.same (α := α) sm).st, fun l hl b hb => by
    simp at hl; subst hl; simp at hb; subst hb; exact hp⟩
  refine q (.m M.length) (M ++ [m]) [[p]] (.ref p) _ h ⟨paired_app ?_ (.cons r .nil), ?_, fun b hb => g.st b (em.trk b hb)⟩ g ⟨p, [], ?_, rfl⟩
  · refine Paired.mapP em.rep fun m l r => r.tr (fun b hb => ?_) (fun b o _ e => sm b o e) fun b o _ e => sm b o e
    rcases av_app hb with z | ⟨l, hl, z⟩
    · exact .inl z
    · exact .inr (g.fr l hl b z)
  · rw [List.flatten_append, List.nodup_append]
    refine ⟨em.nd, by simp, fun a ha b hb e => ?_⟩
    simp at hb
    subst hb
    subst e
    obtain ⟨l, hl, hb⟩ := List.mem_flatten.mp ha
    exact em.trA a (.inr ⟨l, hl, hb⟩) hp
  · rw [em.len, List.getElem?_append_right (Nat.le_refl _)]
    simp
end

section
variable {P : Program} {w : World} {K : PySem.W.Frag} {mg : Str → Option Value} {base : Heap} {N gs : List Str} {Vi Li : List Nat} {k : Nat}
variable {C : Ctx} {e e2 a b c : Expr} {es : List Expr} {st : Stmt} {sts : List Stmt} {ρ : Rho} {M : Mm} {Φ : Kn} {Ψ : AV → Mm → Prop} {x : Str} {pos p : Pos}

/-! ### names, constants -/
theorem we_var (ok : Cok C P w K mg base N gs Vi Li k) (i : Nat) {v : AV} (hN : N[i]? = some x) (hV : i ∈ Vi) (hρ : ρ[i]? = some (some v)) (h : Ψ v M) (hd : (x == ("__debug__" : Str)) = false := by decide) (hcd : (x == ("__classdict__" : Str)) = false := by decide) : WE C (.Name x pos) ρ M Ψ := by
  refine ⟨fun S α0 H0 α σ H Q b g ev q => uE_of (pe_var (i := i) (by rw [ok.nE]; exact hN) (ok.vis i x hV hN) hd hcd) ?_⟩
  obtain ⟨u, h1, h2⟩ := ev.sl i v hρ
  exact ⟨u, h1, stayE ev.em q h2 h⟩
theorem we_int {i : Int} {j : Nat} (h : Ψ (.d (.int i)) M) : WE C (.Constant (.int i) j pos) ρ M Ψ :=
  ⟨fun S α0 H0 α σ H Q b g ev q => uE_of pe_int (stayE (a := .d (.int i)) (v := .int i) ev.em q rfl h)⟩
theorem we_bl {i : Bool} {j : Nat} (h : Ψ (.d (.bl i)) M) : WE C (.Constant (.bool i) j pos) ρ M Ψ :=
  ⟨fun S α0 H0 α σ H Q b g ev q => uE_of pe_bl (stayE (a := .d (.bl i)) (v := .bl i) ev.em q rfl h)⟩
theorem we_non {j : Nat} (h : Ψ (.d .non) M) : WE C (.Constant .none j pos) ρ M Ψ :=
  ⟨fun S α0 H0 α σ H Q b g ev q => uE_of pe_non (stayE (a := .d .non) (v := .non) ev.em q rfl h)⟩
theorem we_str {i : Str} {j : Nat} (h : Ψ (.d (.str i)) M) : WE C (.Constant (.str i) j pos) ρ M Ψ :=
  ⟨fun S α0 H0 α σ H Q b g ev q => uE_of pe_str (stayE (a := .d (.str i)) (v := .str i) ev.em q rfl h)⟩
/-- a constant of the module that is an int -/
theorem we_globI (ok : Cok C P w K mg base N gs Vi Li k) (i : Nat) {n : Int} {t : Tok} (hN : gs[i]? = some x) (hm : mg x = some (.int n t)) (h : Ψ (.d (.int n)) M) (hd : (x == ("__debug__" : Str)) = false := by decide) : WE C (.Name x pos) ρ M Ψ :=
  ⟨fun S α0 H0 α σ H Q b g ev q => uE_of (pe_glob (v := .int n) (ok.gl i x hN) (by rw [ok.mgE]; exact hm) ⟨_, rfl⟩ hd) (stayE (a := .d (.int n)) (v := .int n) ev.em q rfl h)⟩
theorem we_globS (ok : Cok C P w K mg base N gs Vi Li k) (i : Nat) {n : Str} {t : Tok} (hN : gs[i]? = some x) (hm : mg x = some (.str n t)) (h : Ψ (.d (.str n)) M) (hd : (x == ("__debug__" : Str)) = false := by decide) : WE C (.Name x pos) ρ M Ψ :=
  ⟨fun S α0 H0 α σ H Q b g ev q => uE_of (pe_glob (v := .str n) (ok.gl i x hN) (by rw [ok.mgE]; exact hm) ⟨_, rfl⟩ hd) (stayE (a := .d (.str n)) (v := .str n) ev.em q rfl h)⟩
/-- a class of the text, a built-in type, as values -/
theorem we_globR (ok : Cok C P w K mg base N gs Vi Li k) (i : Nat) {n : Addr} (hN : gs[i]? = some x) (hm : mg x = some (.ref n)) (h : Ψ (.d (.fn n)) M) (hd : (x == ("__debug__" : Str)) = false := by decide) : WE C (.Name x pos) ρ M Ψ :=
  ⟨fun S α0 H0 α σ H Q b g ev q => uE_of (pe_glob (v := .ref n) (ok.gl i x hN) (by rw [ok.mgE]; exact hm) rfl hd) (stayE (a := .d (.fn n)) (v := .ref n) ev.em q rfl h)⟩
theorem we_ty (ok : Cok C P w K mg base N gs Vi Li k) (i : Nat) {n : String} (hN : gs[i]? = some x) (hm : mg x = none) (hv : bootBuiltins x = some (.type n)) (h : Ψ (.d (.ty n)) M) (hn : x ≠ "__name__" := by decide) (hd : (x == ("__debug__" : Str)) = false := by decide) : WE C (.Name x pos) ρ M Ψ :=
  ⟨fun S α0 H0 α σ H Q b g ev q => uE_of (pe_bltn (v := .ty n) (ok.gl i x hN) (by rw [ok.mgE]; exact hm) hv rfl hn hd) (stayE (a := .d (.ty n)) (v := .ty n) ev.em q rfl h)⟩

/-! ### operators -/
theorem we_bin {op : Operator} (h : WE C a ρ M fun x M1 => WE C b ρ M1 fun y M2 => WO C (binaryOp op) x y M2 Ψ) : WE C (.BinOp a op b pos) ρ M Ψ := by
  refine ⟨fun S α0 H0 α σ H Q bs g ev q => uE_of (pe_op op_u pe_u pe_u) ?_⟩
  refine h.run S α0 H0 α σ H _ bs g ev fun x M1 β1 v H1 p1 em1 g1 r1 => ?_
  refine p1.run S α0 H0 (α ++ β1) σ H1 _ bs (g.trans g1) (ev.up g1 em1) fun y M2 β2 u H2 p2 em2 g2 r2 => ?_
  exact p2.run S (α ++ β1 ++ β2) H2 Q v u em2 (r1.up g2) r2 (thnE (thnE q g1) g2)
theorem we_un {op : UnaryOp} (h : WE C a ρ M fun x M1 => WU C (unaryOp op) x M1 Ψ) : WE C (.UnaryOp op a pos) ρ M Ψ := by
  refine ⟨fun S α0 H0 α σ H Q bs g ev q => uE_of (pe_un un_u pe_u) ?_⟩
  refine h.run S α0 H0 α σ H _ bs g ev fun x M1 β1 v H1 p1 em1 g1 r1 => ?_
  exact p1.run S (α ++ β1) H1 Q v em1 r1 (thnE q g1)
theorem we_cmp {op : CmpOp} (h : WE C a ρ M fun x M1 => WE C b ρ M1 fun y M2 => WO C (compareOp op) x y M2 Ψ) (hm : behindInMarks op b = false := by first | exact nomark _ | with_unfolding_all rfl) : WE C (.Compare a [op] [b] pos) ρ M Ψ := by
  refine ⟨fun S α0 H0 α σ H Q bs g ev q => uE_of (pe_cmpR op_u pe_u pe_u hm) ?_⟩
  refine h.run S α0 H0 α σ H _ bs g ev fun x M1 β1 v H1 p1 em1 g1 r1 => ?_
  refine p1.run S α0 H0 (α ++ β1) σ H1 _ bs (g.trans g1) (ev.up g1 em1) fun y M2 β2 u H2 p2 em2 g2 r2 => ?_
  exact p2.run S (α ++ β1 ++ β2) H2 Q v u em2 (r1.up g2) r2 (thnE (thnE q g1) g2)
/-- a bool as a value -/
def isB (a : AV) (R : Bool → Prop) : Prop := match a with
  | .d (.bl b) => R b
  | _ => False
theorem isB_of {a : AV} {v : V} {R : Bool → Prop} {W : Wd} {S : Addr → Prop} (h : isB a R) (r : RepA W S α H a v) : ∃ b, v = .bl b ∧ R b := by
  cases a with
  | d x => cases x with
    | bl b => exact ⟨b, r, h⟩
    | _ => exact False.elim h
  | m k => exact False.elim h
theorem wt_cmp {Ψ : Bool → Mm → Prop} {op : CmpOp} (h : WE C a ρ M fun x M1 => WE C b ρ M1 fun y M2 => WO C (compareOp op) x y M2 fun r M3 => isB r fun t => Ψ t M3) (hm : behindInMarks op b = false := by first | exact nomark _ | with_unfolding_all rfl) : WT C (.Compare a [op] [b] pos) ρ M Ψ := by
  refine ⟨fun S α0 H0 α σ H Q bs g ev q => uT_of (pt_cmpR op_u pe_u pe_u hm) ?_⟩
  refine h.run S α0 H0 α σ H _ bs g ev fun x M1 β1 v H1 p1 em1 g1 r1 => ?_
  refine p1.run S α0 H0 (α ++ β1) σ H1 _ bs (g.trans g1) (ev.up g1 em1) fun y M2 β2 u H2 p2 em2 g2 r2 => ?_
  refine p2.run S (α ++ β1 ++ β2) H2 _ v u em2 (r1.up g2) r2 fun r M3 β3 z H3 p3 em3 g3 r3 => ?_
  obtain ⟨t, e, hh⟩ := isB_of p3 r3
  exact ⟨t, e, (thnT (thnT q g1) g2) t M3 β3 H3 hh em3 g3⟩
theorem we_chain {op op' : CmpOp} (h : WE C a ρ M fun x M1 => WE C b ρ M1 fun y M2 => WO C (compareOp op) x y M2 fun r M3 => isB r fun t => (t = false → Ψ (.d (.bl false)) M3) ∧ (t = true → WE C c ρ M3 fun z M4 => WO C (compareOp op') y z M4 Ψ))
    (hm : lastMarks [op, op'] [b, c] = false := by with_unfolding_all rfl) : WE C (.Compare a [op, op'] [b, c] pos) ρ M Ψ := by
  refine ⟨fun S α0 H0 α σ H Q bs g ev q => uE_of (pe_chain op_u op_u pe_u pe_u pe_u hm) ?_⟩
  refine h.run S α0 H0 α σ H _ bs g ev fun x M1 β1 v H1 p1 em1 g1 r1 => ?_
  refine p1.run S α0 H0 (α ++ β1) σ H1 _ bs (g.trans g1) (ev.up g1 em1) fun y M2 β2 u H2 p2 em2 g2 r2 => ?_
  refine p2.run S (α ++ β1 ++ β2) H2 _ v u em2 (r1.up g2) r2 fun r M3 β3 z H3 p3 em3 g3 r3 => ?_
  obtain ⟨t, e, hh⟩ := isB_of p3 r3
  refine ⟨t, e, ?_⟩
  have q3 := thnE (thnE (thnE q g1) g2) g3
  cases t with
  | false => exact stayE (a := .d (.bl false)) (v := .bl false) em3 q3 rfl (hh.1 rfl)
  | true =>
    refine (hh.2 rfl).run S α0 H0 (α ++ β1 ++ β2 ++ β3) σ H3 _ bs (((g.trans g1).trans g2).trans g3) ((((ev.up g1 em1).up g2 em2)).up g3 em3) fun z' M4 β4 w' H4 p4 em4 g4 r4 => ?_
    exact p4.run S _ H4 Q u w' em4 ((r2.up g3).up g4) r4 (thnE q3 g4)
/-- a value's truth, of what may stand in a test -/
theorem wt_val {Ψ : Bool → Mm → Prop} (h : WE C e ρ M fun r M1 => isB r fun t => Ψ t M1) (he : ∀ whole, isTrue e C.X.env whole = (do let v ← whole; standAt e.pos; holding [v] (truthy v)) := by intro _; rfl) : WT C e ρ M Ψ := by
  refine ⟨fun S α0 H0 α σ H Q bs g ev q => uT_of (pt_val pe_u he) ?_⟩
  refine h.run S α0 H0 α σ H _ bs g ev fun x M1 β1 v H1 p1 em1 g1 r1 => ?_
  obtain ⟨t, e, hh⟩ := isB_of p1 r1
  exact ⟨t, e, q t M1 β1 H1 hh em1 g1⟩
theorem wt_not {Ψ : Bool → Mm → Prop} (h : WT C a ρ M fun t M1 => Ψ (!t) M1) : WT C (.UnaryOp .Not a pos) ρ M Ψ := by
  refine ⟨fun S α0 H0 α σ H Q bs g ev q => uT_of (pt_not pt_u) ?_⟩
  exact h.run S α0 H0 α σ H _ bs g ev fun b M' β H' p em g => q (!b) M' β H' p em g
/-- and, or in a test: the rest is a test again -/
structure WTw (C : Ctx) (e : Expr) (ρ : Rho) (M : Mm) (Ψ : Bool → Mm → Prop) : Prop where
  run : ∀ S α0 H0 α σ H (Q : Bool → Hp → Prop), Bs C S α0 H0 → Gr0 α0 α H0 H → Ev C.W S α ρ M σ H → PostT C S α H Ψ Q → ∀ whole pins s, Inv C.X pins σ H s → wpAny (model C.X.prog C.X.w) C.X.A (isTrue e C.X.env whole) (TP C.X pins σ Q) C.X.xe s
def uW (X : Cx) (e : Expr) : TT := fun σ H Q => ∀ whole pins s, Inv X pins σ H s → wpAny (model X.prog X.w) X.A (isTrue e X.env whole) (TP X pins σ Q) X.xe s
theorem pw_u {X : Cx} {e : Expr} : PW X e (uW X e) := ⟨fun wh pins s _ _ _ I h => h wh pins s I⟩
theorem uW_of {X : Cx} {e : Expr} {t : TT} {σ : L2.St} {H : Hp} {Q : Bool → Hp → Prop} (p : PW X e t) (h : t σ H Q) : uW X e σ H Q := fun wh pins s I => p.run wh pins s σ H Q I h
theorem wt_w {Ψ : Bool → Mm → Prop} (h : WTw C e ρ M Ψ) : WT C e ρ M Ψ := ⟨fun S α0 H0 α σ H Q bs g ev q => uT_of pw_u.pt (h.run S α0 H0 α σ H Q bs g ev q)⟩
theorem ww_and1 {Ψ : Bool → Mm → Prop} (h : WT C a ρ M Ψ) : WTw C (.BoolOp .And [a] pos) ρ M Ψ := ⟨fun S α0 H0 α σ H Q bs g ev q => uW_of (pw_and1 pt_u) (h.run S α0 H0 α σ H Q bs g ev q)⟩
theorem ww_or1 {Ψ : Bool → Mm → Prop} (h : WT C a ρ M Ψ) : WTw C (.BoolOp .Or [a] pos) ρ M Ψ := ⟨fun S α0 H0 α σ H Q bs g ev q => uW_of (pw_or1 pt_u) (h.run S α0 H0 α σ H Q bs g ev q)⟩
theorem ww_and {Ψ : Bool → Mm → Prop} (h : WT C a ρ M fun t M1 => (t = false → Ψ false M1) ∧ (t = true → WTw C (.BoolOp .And (b :: es) pos) ρ M1 Ψ)) : WTw C (.BoolOp .And (a :: b :: es) pos) ρ M Ψ := by
  refine ⟨fun S α0 H0 α σ H Q bs g ev q => uW_of (pw_and pt_u pw_u) ?_⟩
  refine h.run S α0 H0 α σ H _ bs g ev fun t M1 β1 H1 p1 em1 g1 => ?_
  cases t with
  | false => exact stayT em1 (thnT q g1) (p1.1 rfl)
  | true => exact (p1.2 rfl).run S α0 H0 _ σ H1 Q bs (g.trans g1) (ev.up g1 em1) (thnT q g1)
theorem ww_or {Ψ : Bool → Mm → Prop} (h : WT C a ρ M fun t M1 => (t = true → Ψ true M1) ∧ (t = false → WTw C (.BoolOp .Or (b :: es) pos) ρ M1 Ψ)) : WTw C (.BoolOp .Or (a :: b :: es) pos) ρ M Ψ := by
  refine ⟨fun S α0 H0 α σ H Q bs g ev q => uW_of (pw_or pt_u pw_u) ?_⟩
  refine h.run S α0 H0 α σ H _ bs g ev fun t M1 β1 H1 p1 em1 g1 => ?_
  cases t with
  | true => exact stayT em1 (thnT q g1) (p1.1 rfl)
  | false => exact (p1.2 rfl).run S α0 H0 _ σ H1 Q bs (g.trans g1) (ev.up g1 em1) (thnT q g1)
/-- the same as values: bools -/
theorem we_bool1 {op : BoolOp} (h : WE C a ρ M Ψ) : WE C (.BoolOp op [a] pos) ρ M Ψ := ⟨fun S α0 H0 α σ H Q bs g ev q => uE_of (pe_one pe_u) (h.run S α0 H0 α σ H Q bs g ev q)⟩
theorem we_and (h : WE C a ρ M fun r M1 => isB r fun t => (t = false → Ψ (.d (.bl false)) M1) ∧ (t = true → WE C (.BoolOp .And (b :: es) pos) ρ M1 Ψ)) : WE C (.BoolOp .And (a :: b :: es) pos) ρ M Ψ := by
  refine ⟨fun S α0 H0 α σ H Q bs g ev q => uE_of (pe_and pe_u pe_u) ?_⟩
  refine h.run S α0 H0 α σ H _ bs g ev fun x M1 β1 v H1 p1 em1 g1 r1 => ?_
  obtain ⟨t, e, hh⟩ := isB_of p1 r1
  refine ⟨t, e, ?_⟩
  cases t with
  | false => exact stayE (a := .d (.bl false)) (v := .bl false) em1 (thnE q g1) rfl (hh.1 rfl)
  | true => exact (hh.2 rfl).run S α0 H0 _ σ H1 Q bs (g.trans g1) (ev.up g1 em1) (thnE q g1)
theorem we_or (h : WE C a ρ M fun r M1 => isB r fun t => (t = true → Ψ (.d (.bl true)) M1) ∧ (t = false → WE C (.BoolOp .Or (b :: es) pos) ρ M1 Ψ)) : WE C (.BoolOp .Or (a :: b :: es) pos) ρ M Ψ := by
  refine ⟨fun S α0 H0 α σ H Q bs g ev q => uE_of (pe_or pe_u pe_u) ?_⟩
  refine h.run S α0 H0 α σ H _ bs g ev fun x M1 β1 v H1 p1 em1 g1 r1 => ?_
  obtain ⟨t, e, hh⟩ := isB_of p1 r1
  refine ⟨t, e, ?_⟩
  cases t with
  | true => exact stayE (a := .d (.bl true)) (v := .bl true) em1 (thnE q g1) rfl (hh.1 rfl)
  | false => exact (hh.2 rfl).run S α0 H0 _ σ H1 Q bs (g.trans g1) (ev.up g1 em1) (thnE q g1)
theorem we_not (h : WE C a ρ M fun r M1 => isB r fun t => Ψ (.d (.bl (!t))) M1) : WE C (.UnaryOp .Not a pos) ρ M Ψ := by
  refine ⟨fun S α0 H0 α σ H Q bs g ev q => uE_of (L2.pe_not pe_u) ?_⟩
  refine h.run S α0 H0 α σ H _ bs g ev fun x M1 β1 v H1 p1 em1 g1 r1 => ?_
  obtain ⟨t, e, hh⟩ := isB_of p1 r1
  exact ⟨t, e, stayE (a := .d (.bl (!t))) (v := .bl (!t)) em1 (thnE q g1) rfl hh⟩
theorem we_if (h : WT C c ρ M fun t M1 => (t = true → WE C a ρ M1 Ψ) ∧ (t = false → WE C b ρ M1 Ψ)) : WE C (.IfExp c a b pos) ρ M Ψ := by
  refine ⟨fun S α0 H0 α σ H Q bs g ev q => uE_of (pe_ifExp pt_u pe_u pe_u) ?_⟩
  refine h.run S α0 H0 α σ H _ bs g ev fun t M1 β1 H1 p1 em1 g1 => ?_
  cases t with
  | true => exact (p1.1 rfl).run S α0 H0 _ σ H1 Q bs (g.trans g1) (ev.up g1 em1) (thnE q g1)
  | false => exact (p1.2 rfl).run S α0 H0 _ σ H1 Q bs (g.trans g1) (ev.up g1 em1) (thnE q g1)
theorem w1_if {A B : List Stmt} (h : WT C c ρ M fun t M1 => (t = true → WS C A ρ M1 Φ) ∧ (t = false → WS C B ρ M1 Φ)) : W1 C (.If c A B pos) ρ M Φ := by
  refine ⟨fun S α0 H0 α σ H D bs g ev f => uS_of (ps_if pt_u pss_u pss_u) ?_⟩
  refine h.run S α0 H0 α σ H _ bs g ev fun t M1 β1 H1 p1 em1 g1 => ?_
  cases t with
  | true => exact (p1.1 rfl).run S α0 H0 _ σ H1 D bs (g.trans g1) (ev.up g1 em1) f
  | false => exact (p1.2 rfl).run S α0 H0 _ σ H1 D bs (g.trans g1) (ev.up g1 em1) f

/-! ### arguments, displays -/
theorem wa_nil {Ψ : List AV → Mm → Prop} (h : Ψ [] M) : WA C [] ρ M Ψ :=
  ⟨fun S α0 H0 α σ H Q bs g ev q => uA_of pa_nil (q [] M [] [] H h (by rw [app_nil]; exact ev.em) Gr.refl rfl)⟩
theorem wa_cons {Ψ : List AV → Mm → Prop} (h : WE C e ρ M fun x M1 => WA C es ρ M1 fun xs M2 => Ψ (x :: xs) M2) (hs : starEach (e :: es) C.X.env = (false, eval e C.X.env) :: starEach es C.X.env := by rfl) : WA C (e :: es) ρ M Ψ := by
  refine ⟨fun S α0 H0 α σ H Q bs g ev q => uA_of (pa_cons pe_u pa_u hs) ?_⟩
  refine h.run S α0 H0 α σ H _ bs g ev fun x M1 β1 v H1 p1 em1 g1 r1 => ?_
  refine p1.run S α0 H0 (α ++ β1) σ H1 _ bs (g.trans g1) (ev.up g1 em1) fun xs M2 β2 us H2 p2 em2 g2 r2 => ?_
  exact (thnA q g1) (x :: xs) M2 β2 (v :: us) H2 p2 em2 g2 ⟨v, us, rfl, r1.up g2, r2⟩
/-- all of them values -/
def unD : List AV → Option (List D)
  | [] => some []
  | .d x :: r => (unD r).map (x :: ·)
  | _ => none
def allD (as : List AV) (R : List D → Prop) : Prop := match unD as with
  | some ds => R ds
  | none => False
theorem unD_rep {W : Wd} {S : Addr → Prop} : ∀ {as : List AV} {ds : List D} {vs : List V}, unD as = some ds → RepsA W S α H as vs → Reps W (Av S α) H ds vs
  | [], ds, vs, e, r => by cases e; exact r
  | .d x :: as, ds, vs, e, r => by
    obtain ⟨v, r, ev, h, t⟩ := (show ∃ v r, vs = v :: r ∧ RepA W S α H (.d x) v ∧ RepsA W S α H as r from r)
    have e' : (unD as).map (x :: ·) = some ds := e
    cases q : unD as with
    | none => rw [q] at e'; cases e'
    | some es =>
      rw [q] at e'; cases e'
      exact ⟨v, r, ev, h, unD_rep q t⟩
  | .m k :: as, ds, vs, e, r => by cases e
theorem allD_of {W : Wd} {S : Addr → Prop} {as : List AV} {R : List D → Prop} {vs : List V} (h : allD as R) (r : RepsA W S α H as vs) : ∃ ds, unD as = some ds ∧ R ds ∧ Reps W (Av S α) H ds vs := by
  cases q : unD as with
  | none => unfold allD at h; rw [q] at h; exact h.elim
  | some ds => unfold allD at h; rw [q] at h; exact ⟨ds, rfl, h, unD_rep q r⟩
/-- a tuple of written items, its record known -/
theorem pe_tupZ {X : Cx} {es : List Expr} {pos : Pos} {t : TA} {x1 : Nat} (ht : PA X es t) : PE X (.Tuple es x1 pos) fun σ H Q => t σ H fun xs H1 => xs.length ≤ sizeLine ∧ ∀ (p : Addr) (o : Obj), o.dict = none → H1 p = none → Q (.ref p) (upd H1 p (.frz o (.tup xs))) := by
  refine ⟨fun pins s σ H Q I hq => PySem.wpAny_Tuple_spliced (thn (ht.run pos pins s σ H _ I hq) fun us s1 ⟨xs, H1, I1, r, z, q⟩ => ⟨by rw [← r.length]; exact z, ?_⟩)⟩
  have hn : H1 s1.heap.objs.size = none := I1.hok.fresh (Nat.le_refl _)
  have at1 : (s1.heap.push { cls := .type "tuple", data := .seq us.toArray }).get? s1.heap.objs.size = some { cls := .type "tuple", data := .seq us.toArray } := Heap.get?_push_size _ rfl
  refine ⟨.ref s1.heap.objs.size, upd H1 s1.heap.objs.size (.frz { cls := .type "tuple", data := .seq us.toArray } (.tup xs)), I1.laid (t' := s1.toks) (fun b u e => Heap.get?_push_of_some _ e) (Nat.le_refl _) ?_, rfl, q _ _ rfl hn⟩
  exact ⟨at1, z, us, r, ⟨_, at1, rfl, _, rfl⟩⟩
theorem we_tup {x1 : Nat} (h : WA C es ρ M fun as M1 => allD as fun ds => ds.length ≤ 1000 ∧ Ψ (.d (.tup ds)) M1) : WE C (.Tuple es x1 pos) ρ M Ψ := by
  refine ⟨fun S α0 H0 α σ H Q bs g ev q => uE_of (pe_tupZ pa_u) ?_⟩
  refine h.run S α0 H0 α σ H _ bs g ev fun as M1 β1 vs H1 p1 em1 g1 r1 => ?_
  obtain ⟨ds, _, ⟨hl, hh⟩, r⟩ := allD_of p1 r1
  have e := reps_len r
  refine ⟨by rw [sizeLine_eq]; omega, fun p o ho hp => newE (x := .tup ds) em1 (thnE q g1) hp ⟨p, vs, rfl, TSq.of (em1.off hp) ho upd_same, ?_⟩ hh⟩
  exact Reps.tr (fun _ z => .inl z) (fun b o _ => same_new hp b o) _ _ r
theorem we_lst (h : WA C es ρ M fun as M1 => allD as fun ds => ds.length ≤ 1000 ∧ Ψ (.m M1.length) (M1 ++ [.l ds])) : WE C (.List es pos) ρ M Ψ := by
  refine ⟨fun S α0 H0 α σ H Q bs g ev q => uE_of (pe_lst pa_u) ?_⟩
  refine h.run S α0 H0 α σ H _ bs g ev fun as M1 β1 vs H1 p1 em1 g1 r1 => ?_
  obtain ⟨ds, _, ⟨hl, hh⟩, r⟩ := allD_of p1 r1
  have e := reps_len r
  refine ⟨by rw [sizeLine_eq]; omega, fun p hp => newM (m := .l ds) em1 (thnE q g1) hp ⟨p, vs, rfl, upd_same, ?_⟩ hh⟩
  refine Reps.tr (fun b z => ?_) (fun b o _ => same_new hp b o) _ _ r
  rcases av_app z with z | ⟨l, hl, z⟩
  · exact .inl z
  · simp at hl; subst hl; simp at z; subst z; exact .inr hp
/-- what was made on the way is let go: a new list is a value from here on -/
theorem we_clo (h : WE C e ρ M fun a M1 => Clo M.length a M1 Ψ) : WE C e ρ M Ψ := by
  refine ⟨fun S α0 H0 α σ H Q bs g ev q => ?_⟩
  refine h.run S α0 H0 α σ H _ bs g ev fun a M1 β1 v H1 p1 em1 g1 r1 => ?_
  obtain ⟨c, M', α', hh, he, ⟨γ, eγ, gγ⟩, hr⟩ : ∃ a' M' α', Ψ a' M' ∧ EM C.W S α' M' H1 ∧ Gr0 α α' H H1 ∧ RepA C.W S α' H1 a' v :=
    clo_ok (C := { C with n0 := M.length, T := fun _ _ _ _ => False }) ⟨ev.em.len.symm, ev.em.trA, fun _ _ _ _ => False, (fun _ _ ⟨_, _, _, _, _, _, _, _, _, _, _, _, _, _, _, _, z⟩ => z.elim), fun _ _ _ _ _ _ _ _ _ z => z.elim⟩ ⟨β1, rfl, g1⟩ em1 r1 p1
  subst eγ
  exact q c M' γ v H1 hh he gγ hr
end
end Dl

/-! DL4: operators, built-in calls, subscripts, stores by values. -/
namespace Dl
open PySem L2

section
variable {C : Ctx} {M : Mm} {Ψ : AV → Mm → Prop} {f : Value → Value → Sem Value}
/-! ### ints -/
theorem wo_int {Cn : Int → Int → Prop} {g : Int → Int → Int} {i j : Int} (p : OpR C.X f (rI Cn fun i j => .int (g i j))) (hc : Cn i j) (h : Ψ (.d (.int (g i j))) M) : WO C f (.d (.int i)) (.d (.int j)) M Ψ :=
  ⟨fun S α H Q v u em r1 r2 q => uO_of p ⟨i, j, r1, r2, hc, stayE (a := .d (.int (g i j))) (v := .int (g i j)) em q rfl h⟩⟩
theorem wo_int0 {g : Int → Int → Int} {i j : Int} (p : OpR C.X f (rI0 fun i j => .int (g i j))) (h : Ψ (.d (.int (g i j))) M) : WO C f (.d (.int i)) (.d (.int j)) M Ψ :=
  ⟨fun S α H Q v u em r1 r2 q => uO_of p ⟨i, j, r1, r2, stayE (a := .d (.int (g i j))) (v := .int (g i j)) em q rfl h⟩⟩
theorem wo_bl0 {g : Int → Int → Bool} {i j : Int} (p : OpR C.X f (rI0 fun i j => .bl (g i j))) (h : Ψ (.d (.bl (g i j))) M) : WO C f (.d (.int i)) (.d (.int j)) M Ψ :=
  ⟨fun S α H Q v u em r1 r2 q => uO_of p ⟨i, j, r1, r2, stayE (a := .d (.bl (g i j))) (v := .bl (g i j)) em q rfl h⟩⟩
variable {i j : Int}
theorem wo_add (h : Ψ (.d (.int (i + j))) M) : WO C (binaryOp .Add) (.d (.int i)) (.d (.int j)) M Ψ := wo_int0 (g := fun i j => i + j) op_add h
theorem wo_sub (h : Ψ (.d (.int (i - j))) M) : WO C (binaryOp .Sub) (.d (.int i)) (.d (.int j)) M Ψ := wo_int0 (g := fun i j => i - j) op_sub h
theorem wo_mul (hc : CMul i j) (h : Ψ (.d (.int (i * j))) M) : WO C (binaryOp .Mult) (.d (.int i)) (.d (.int j)) M Ψ := wo_int (g := fun i j => i * j) op_mul hc h
theorem wo_mulW (hc : CMulW i j) (h : Ψ (.d (.int (i * j))) M) : WO C (binaryOp .Mult) (.d (.int i)) (.d (.int j)) M Ψ := wo_int (g := fun i j => i * j) op_mulW hc h
theorem wo_fdiv (hc : CDiv i j) (h : Ψ (.d (.int (i / j))) M) : WO C (binaryOp .FloorDiv) (.d (.int i)) (.d (.int j)) M Ψ := wo_int (g := fun i j => i / j) op_fdiv hc h
theorem wo_fdivW (hc : CDivW i j) (h : Ψ (.d (.int (i / j))) M) : WO C (binaryOp .FloorDiv) (.d (.int i)) (.d (.int j)) M Ψ := wo_int (g := fun i j => i / j) op_fdivW hc h
theorem wo_mod (hc : 0 < j) (h : Ψ (.d (.int (i % j))) M) : WO C (binaryOp .Mod) (.d (.int i)) (.d (.int j)) M Ψ := wo_int (Cn := fun _ j => 0 < j) (g := fun i j => i % j) op_mod hc h
theorem wo_pow (hc : CPow i j) (h : Ψ (.d (.int (i ^ j.toNat))) M) : WO C (binaryOp .Pow) (.d (.int i)) (.d (.int j)) M Ψ := wo_int (g := fun i j => i ^ j.toNat) op_pow hc h
theorem wo_shl (hc : CPow i j) (h : Ψ (.d (.int (i * 2 ^ j.toNat))) M) : WO C (binaryOp .LShift) (.d (.int i)) (.d (.int j)) M Ψ := wo_int (g := fun i j => i * 2 ^ j.toNat) op_shl hc h
theorem wo_lt (h : Ψ (.d (.bl (decide (i < j)))) M) : WO C (compareOp .Lt) (.d (.int i)) (.d (.int j)) M Ψ := wo_bl0 (g := fun i j => decide (i < j)) op_lt h
theorem wo_le (h : Ψ (.d (.bl (decide (i ≤ j)))) M) : WO C (compareOp .LtE) (.d (.int i)) (.d (.int j)) M Ψ := wo_bl0 (g := fun i j => decide (i ≤ j)) op_le h
theorem wo_gt (h : Ψ (.d (.bl (decide (j < i)))) M) : WO C (compareOp .Gt) (.d (.int i)) (.d (.int j)) M Ψ := wo_bl0 (g := fun i j => decide (j < i)) op_gt h
theorem wo_ge (h : Ψ (.d (.bl (decide (j ≤ i)))) M) : WO C (compareOp .GtE) (.d (.int i)) (.d (.int j)) M Ψ := wo_bl0 (g := fun i j => decide (j ≤ i)) op_ge h
theorem dq_int {i j : Int} : decide (V.int i = V.int j) = decide (i = j) := by by_cases h : i = j <;> simp [h]
theorem dq_str {i j : Str} : decide (V.str i = V.str j) = decide (i = j) := by by_cases h : i = j <;> simp [h]
theorem dq_bl {i j : Bool} : decide (V.bl i = V.bl j) = decide (i = j) := by by_cases h : i = j <;> simp [h]
theorem wo_eq (h : Ψ (.d (.bl (decide (i = j)))) M) : WO C (compareOp .Eq) (.d (.int i)) (.d (.int j)) M Ψ :=
  ⟨fun S α H Q v u em r1 r2 q => uO_of op_eq (by rw [show v = .int i from r1, show u = .int j from r2]; exact ⟨rfl, by rw [dq_int]; exact stayE (a := .d (.bl (decide (i = j)))) (v := .bl (decide (i = j))) em q rfl h⟩)⟩
theorem wo_ne (h : Ψ (.d (.bl (!decide (i = j)))) M) : WO C (compareOp .NotEq) (.d (.int i)) (.d (.int j)) M Ψ :=
  ⟨fun S α H Q v u em r1 r2 q => uO_of op_ne (by rw [show v = .int i from r1, show u = .int j from r2]; exact ⟨rfl, by rw [dq_int]; exact stayE (a := .d (.bl (!decide (i = j)))) (v := .bl (!decide (i = j))) em q rfl h⟩)⟩
theorem wo_eqS {i j : Str} (h : Ψ (.d (.bl (decide (i = j)))) M) : WO C (compareOp .Eq) (.d (.str i)) (.d (.str j)) M Ψ :=
  ⟨fun S α H Q v u em r1 r2 q => uO_of op_eq (by rw [show v = .str i from r1, show u = .str j from r2]; exact ⟨rfl, by rw [dq_str]; exact stayE (a := .d (.bl (decide (i = j)))) (v := .bl (decide (i = j))) em q rfl h⟩)⟩
theorem wo_neS {i j : Str} (h : Ψ (.d (.bl (!decide (i = j)))) M) : WO C (compareOp .NotEq) (.d (.str i)) (.d (.str j)) M Ψ :=
  ⟨fun S α H Q v u em r1 r2 q => uO_of op_ne (by rw [show v = .str i from r1, show u = .str j from r2]; exact ⟨rfl, by rw [dq_str]; exact stayE (a := .d (.bl (!decide (i = j)))) (v := .bl (!decide (i = j))) em q rfl h⟩)⟩
theorem wo_eqB {i j : Bool} (h : Ψ (.d (.bl (decide (i = j)))) M) : WO C (compareOp .Eq) (.d (.bl i)) (.d (.bl j)) M Ψ :=
  ⟨fun S α H Q v u em r1 r2 q => uO_of op_eq (by rw [show v = .bl i from r1, show u = .bl j from r2]; exact ⟨rfl, by rw [dq_bl]; exact stayE (a := .d (.bl (decide (i = j)))) (v := .bl (decide (i = j))) em q rfl h⟩)⟩
theorem wo_neB {i j : Bool} (h : Ψ (.d (.bl (!decide (i = j)))) M) : WO C (compareOp .NotEq) (.d (.bl i)) (.d (.bl j)) M Ψ :=
  ⟨fun S α H Q v u em r1 r2 q => uO_of op_ne (by rw [show v = .bl i from r1, show u = .bl j from r2]; exact ⟨rfl, by rw [dq_bl]; exact stayE (a := .d (.bl (!decide (i = j)))) (v := .bl (!decide (i = j))) em q rfl h⟩)⟩
/-- is None -/
def isNon : AV → Bool
  | .d .non => true
  | _ => false
theorem isNon_of {W : Wd} {S : Addr → Prop} {α : Als} {H : Hp} : ∀ {a : AV} {v : V}, RepA W S α H a v → decide (v = .non) = isNon a
  | .m k, v, r => by obtain ⟨p, l, _, e⟩ := (show ∃ p l, α[k]? = some (p :: l) ∧ v = .ref p from r); rw [e]; rfl
  | .d .non, v, r => by rw [show v = .non from r]; rfl
  | .d (.bl b), v, r => by rw [show v = .bl b from r]; rfl
  | .d (.int b), v, r => by rw [show v = .int b from r]; rfl
  | .d (.str b), v, r => by rw [show v = .str b from r]; rfl
  | .d (.fn b), v, r => by rw [show v = .ref b from r]; rfl
  | .d (.ty b), v, r => by rw [show v = .ty b from r]; rfl
  | .d (.tup ds), v, r => by obtain ⟨a, vs, e, _⟩ := (show ∃ a vs, v = .ref a ∧ TSq W (Av S α) H a vs ∧ Reps W (Av S α) H ds vs from r); rw [e]; rfl
  | .d (.lst ds), v, r => by obtain ⟨a, vs, e, _⟩ := (show ∃ a vs, v = .ref a ∧ LSq W (Av S α) H a vs ∧ Reps W (Av S α) H ds vs from r); rw [e]; rfl
  | .d (.tw ds), v, r => by obtain ⟨a, vs, e, _⟩ := (show ∃ a vs, v = .ref a ∧ TSw W (Av S α) H a vs ∧ Reps W (Av S α) H ds vs from r); rw [e]; rfl
  | .d (.ob c ds), v, r => by obtain ⟨a, dx, vs, e, _⟩ := (show ∃ a dx vs, v = .ref a ∧ ¬ Av S α a ∧ H a = some (.ins (W.ca c) dx ((W.cf c).zip vs)) ∧ vs.length = (W.cf c).length ∧ Reps W (Av S α) H ds vs from r); rw [e]; rfl
  | .d (.dk ks ds), v, r => by obtain ⟨a, vs, e, _⟩ := (show ∃ a vs, v = .ref a ∧ ¬ Av S α a ∧ H a = some (.dK (ks.zip vs)) ∧ vs.length = ks.length ∧ Reps W (Av S α) H ds vs from r); rw [e]; rfl
theorem wo_is {a : AV} (h : Ψ (.d (.bl (isNon a))) M) : WO C (compareOp .Is) a (.d .non) M Ψ :=
  ⟨fun S α H Q v u em r1 r2 q => uO_of op_isN ⟨r2, by rw [isNon_of r1]; exact stayE (a := .d (.bl (isNon a))) (v := .bl (isNon a)) em q rfl h⟩⟩
theorem wo_isnot {a : AV} (h : Ψ (.d (.bl (!isNon a))) M) : WO C (compareOp .IsNot) a (.d .non) M Ψ :=
  ⟨fun S α H Q v u em r1 r2 q => uO_of op_notN ⟨r2, by rw [isNon_of r1]; exact stayE (a := .d (.bl (!isNon a))) (v := .bl (!isNon a)) em q rfl h⟩⟩
theorem wu_neg (h : Ψ (.d (.int (-i))) M) : WU C (unaryOp .USub) (.d (.int i)) M Ψ :=
  ⟨fun S α H Q v em r q => uU_of un_neg ⟨i, r, stayE (a := .d (.int (-i))) (v := .int (-i)) em q rfl h⟩⟩
/-! ### texts -/
theorem wo_addS {x y : Str} (hl : x.length + y.length ≤ 1000000) (h : Ψ (.d (.str (x ++ y))) M) : WO C (binaryOp .Add) (.d (.str x)) (.d (.str y)) M Ψ :=
  ⟨fun S α H Q v u em r1 r2 q => uO_of op_add_str ⟨x, y, r1, r2, by rw [sizeLine_eq]; omega, stayE (a := .d (.str (x ++ y))) (v := .str (x ++ y)) em q rfl h⟩⟩
theorem wo_ltS {x y : Str} (h : Ψ (.d (.bl (decide (x.cps.toList < y.cps.toList)))) M) : WO C (compareOp .Lt) (.d (.str x)) (.d (.str y)) M Ψ :=
  ⟨fun S α H Q v u em r1 r2 q => uO_of op_lt_str ⟨x, y, r1, r2, stayE (a := .d (.bl (decide (x.cps.toList < y.cps.toList)))) (v := .bl (decide (x.cps.toList < y.cps.toList))) em q rfl h⟩⟩
/-! ### built-in calls -/
theorem reps1 {W : Wd} {S : Addr → Prop} {α : Als} {H : Hp} {a : AV} {vs : List V} (r : RepsA W S α H [a] vs) : ∃ v, vs = [v] ∧ RepA W S α H a v := by
  obtain ⟨v, r, e, h, t⟩ := (show ∃ v r, vs = v :: r ∧ RepA W S α H a v ∧ RepsA W S α H [] r from r)
  rw [show r = [] from t] at e
  exact ⟨v, e, h⟩
theorem reps2 {W : Wd} {S : Addr → Prop} {α : Als} {H : Hp} {a b : AV} {vs : List V} (r : RepsA W S α H [a, b] vs) : ∃ v u, vs = [v, u] ∧ RepA W S α H a v ∧ RepA W S α H b u := by
  obtain ⟨v, r, e, h, t⟩ := (show ∃ v r, vs = v :: r ∧ RepA W S α H a v ∧ RepsA W S α H [b] r from r)
  obtain ⟨u, e2, h2⟩ := reps1 t
  rw [e2] at e
  exact ⟨v, u, e, h, h2⟩
theorem wc_abs (h : Ψ (.d (.int (if i < 0 then -i else i))) M) : WC C (.builtin "abs") [.d (.int i)] M Ψ :=
  ⟨fun S α H Q vs em r q => by
    obtain ⟨v, e, h1⟩ := reps1 r
    exact uC_of call_abs ⟨i, by rw [e, show v = .int i from h1], stayE (a := .d (.int (if i < 0 then -i else i))) (v := .int (if i < 0 then -i else i)) em q rfl h⟩⟩
theorem wc_max (hcalm : C.X.calm = true) (h : Ψ (.d (.int (if j > i then j else i))) M) : WC C (.builtin "max") [.d (.int i), .d (.int j)] M Ψ :=
  ⟨fun S α H Q vs em r q => by
    obtain ⟨v, u, e, h1, h2⟩ := reps2 r
    exact uC_of (call_max2 hcalm) ⟨i, j, by rw [e, show v = .int i from h1, show u = .int j from h2], stayE (a := .d (.int (if j > i then j else i))) (v := .int (if j > i then j else i)) em q rfl h⟩⟩
theorem wc_min (hcalm : C.X.calm = true) (h : Ψ (.d (.int (if j < i then j else i))) M) : WC C (.builtin "min") [.d (.int i), .d (.int j)] M Ψ :=
  ⟨fun S α H Q vs em r q => by
    obtain ⟨v, u, e, h1, h2⟩ := reps2 r
    exact uC_of (call_min2 hcalm) ⟨i, j, by rw [e, show v = .int i from h1, show u = .int j from h2], stayE (a := .d (.int (if j < i then j else i))) (v := .int (if j < i then j else i)) em q rfl h⟩⟩
theorem wc_int (h : Ψ (.d (.int i)) M) : WC C (.type "int") [.d (.int i)] M Ψ :=
  ⟨fun S α H Q vs em r q => by
    obtain ⟨v, e, h1⟩ := reps1 r
    exact uC_of call_int1 (.inl ⟨i, by rw [e, show v = .int i from h1], stayE (a := .d (.int i)) (v := .int i) em q rfl h⟩)⟩
theorem wc_divmod (hc : CDiv i j) (h : Ψ (.d (.tw [.int (i / j), .int (i % j)])) M) : WC C (.builtin "divmod") [.d (.int i), .d (.int j)] M Ψ :=
  ⟨fun S α H Q vs em r q => by
    obtain ⟨v, u, e, h1, h2⟩ := reps2 r
    refine uC_of call_divmod ⟨i, j, by rw [e, show v = .int i from h1, show u = .int j from h2], hc, fun p hp => ?_⟩
    exact newE (x := .tw [.int (i / j), .int (i % j)]) em q hp ⟨p, _, rfl, TSw.of (em.off hp) upd_same, ⟨_, _, rfl, rfl, _, _, rfl, rfl, rfl⟩⟩ h⟩
/-- the items of a list or tuple, frozen or in the store -/
def seqOf (M : Mm) : AV → Option (List D)
  | .d (.tup ds) => some ds
  | .d (.lst ds) => some ds
  | .m k => match M[k]? with
    | some (.l ds) => some ds
    | _ => none
  | _ => none
theorem seq_rep (wk : C.W.K = C.X.K) {S : Addr → Prop} {α : Als} {H : Hp} (em : EM C.W S α M H) : ∀ {a : AV} {v : V} {ds : List D}, seqOf M a = some ds → RepA C.W S α H a v → ∃ p vs, v = .ref p ∧ (SqL C.X.K H p vs ∨ SqT C.X.K H p vs) ∧ Reps C.W (Av S α) H ds vs
  | .d (.tup es), v, ds, e, r => by
    cases e
    obtain ⟨a, vs, e, t, rr⟩ := (show ∃ a vs, v = .ref a ∧ TSq C.W (Av S α) H a vs ∧ Reps C.W (Av S α) H es vs from r)
    exact ⟨a, vs, e, .inr (wk ▸ t.sq), rr⟩
  | .d (.lst es), v, ds, e, r => by
    cases e
    obtain ⟨a, vs, e, t, rr⟩ := (show ∃ a vs, v = .ref a ∧ LSq C.W (Av S α) H a vs ∧ Reps C.W (Av S α) H es vs from r)
    exact ⟨a, vs, e, .inl (wk ▸ t.sq), rr⟩
  | .m k, v, ds, e, r => by
    obtain ⟨p, l, h1, h2⟩ := (show ∃ p l, α[k]? = some (p :: l) ∧ v = .ref p from r)
    cases q : M[k]? with
    | none => simp [seqOf, q] at e
    | some m =>
      obtain ⟨l', h3, h4⟩ := paired_get em.rep q
      rw [h1] at h3; cases h3
      cases m with
      | l es =>
        simp [seqOf, q] at e
        subst e
        obtain ⟨p', vs, ep, hh, rr⟩ := h4
        cases ep
        exact ⟨p, vs, h2, .inl (SqL.of hh), rr⟩
      | k _ _ => simp [seqOf, q] at e
      | o _ _ => simp [seqOf, q] at e
      | dead => simp [seqOf, q] at e
  | .d .non, v, ds, e, r => by cases e
  | .d (.bl _), v, ds, e, r => by cases e
  | .d (.int _), v, ds, e, r => by cases e
  | .d (.str _), v, ds, e, r => by cases e
  | .d (.fn _), v, ds, e, r => by cases e
  | .d (.ty _), v, ds, e, r => by cases e
  | .d (.ob _ _), v, ds, e, r => by cases e
  | .d (.dk _ _), v, ds, e, r => by cases e
theorem wc_len (wk : C.W.K = C.X.K) {a : AV} {ds : List D} (hs : seqOf M a = some ds) (h : Ψ (.d (.int ds.length)) M) : WC C (.builtin "len") [a] M Ψ :=
  ⟨fun S α H Q vs em r q => by
    obtain ⟨v, e, h1⟩ := reps1 r
    obtain ⟨p, us, e2, sq, rr⟩ := seq_rep wk em hs h1
    refine uC_of call_len_seq ⟨p, us, by rw [e, e2], sq, ?_⟩
    rw [reps_len rr]
    exact stayE (a := .d (.int ds.length)) (v := .int ds.length) em q rfl h⟩
theorem wc_lenS {x : Str} (hl : x.length ≤ 1000000) (h : Ψ (.d (.int x.length)) M) : WC C (.builtin "len") [.d (.str x)] M Ψ :=
  ⟨fun S α H Q vs em r q => by
    obtain ⟨v, e, h1⟩ := reps1 r
    exact uC_of call_len_str ⟨x, by rw [e, show v = .str x from h1], by rw [sizeLine_eq]; omega, stayE (a := .d (.int x.length)) (v := .int x.length) em q rfl h⟩⟩
theorem reps_new {W : Wd} {S : Addr → Prop} {α : Als} {H : Hp} {p : Addr} {o : HO} {ds : List D} {vs : List V} (hp : H p = none) (r : Reps W (Av S α) H ds vs) : Reps W (Av S (α ++ [[p]])) (upd H p o) ds vs := by
  refine Reps.tr (fun b z => ?_) (fun b o _ => same_new hp b o) _ _ r
  rcases av_app z with z | ⟨l, hl, z⟩
  · exact .inl z
  · simp at hl; subst hl; simp at z; subst z; exact .inr hp
theorem reps_same {W : Wd} {S : Addr → Prop} {H H' : Hp} {ds : List D} {vs : List V} (h : Same H H') (r : Reps W S H ds vs) : Reps W S H' ds vs := Reps.tr (fun _ z => .inl z) (fun b o _ => h b o) _ _ r
theorem wc_list (wk : C.W.K = C.X.K) {a : AV} {ds : List D} (hs : seqOf M a = some ds) (h : Ψ (.m M.length) (M ++ [.l ds])) : WC C (.type "list") [a] M Ψ :=
  ⟨fun S α H Q vs em r q => by
    obtain ⟨v, e, h1⟩ := reps1 r
    obtain ⟨p, us, e2, sq, rr⟩ := seq_rep wk em hs h1
    refine uC_of call_list_of ⟨p, us, by rw [e, e2], sq, fun l hl => ?_⟩
    exact newM (m := .l ds) em q hl ⟨l, us, rfl, upd_same, reps_new hl rr⟩ h⟩
/-- tuple(xs), xs a list: its record known -/
theorem call_tupleZ {X : Cx} : CallR X (.type "tuple") fun xs H Q => ∃ p ys, xs = [.ref p] ∧ SqL X.K H p ys ∧ ∀ (l : Addr) (o : Obj), o.dict = none → H l = none → Q (.ref l) (upd H l (.frz o (.tup ys))) := by
  intro pins s σ H xs us Q I r h
  obtain ⟨p, ys, rfl, hq, q⟩ := h
  obtain ⟨u, rfl, rx⟩ := vals1 r
  cases rx
  obtain ⟨its, rv, pl, hz⟩ := I.list hq
  have hlen := rv.length
  refine call_tuple_list pl.isList (fun h' kp => ?_) (by simp only [List.size_toArray] <;> omega)
  have I1 : Inv X pins σ H { s with heap := h' } := I.kept (t' := s.toks) kp
  have at1 : (h'.push { cls := .type "tuple", data := .seq its.toArray }).get? h'.objs.size = some { cls := .type "tuple", data := .seq its.toArray } := Heap.get?_push_size _ rfl
  exact ⟨.ref h'.objs.size, _, I1.laid (t' := s.toks) (o := .frz { cls := .type "tuple", data := .seq its.toArray } (.tup ys)) (fun b o e => Heap.get?_push_of_some _ e) (Nat.le_refl _) ⟨at1, hz, its, rv, ⟨_, at1, rfl, _, rfl⟩⟩, rfl, q _ _ rfl (I1.hok.fresh (Nat.le_refl _))⟩
theorem wc_tuple (wk : C.W.K = C.X.K) {a : AV} {ds : List D} (hs : seqOf M a = some ds) (h : Ψ (.d (.tup ds)) M) : WC C (.type "tuple") [a] M Ψ :=
  ⟨fun S α H Q vs em r q => by
    obtain ⟨v, e, h1⟩ := reps1 r
    have new : ∀ (p : Addr) us, v = .ref p → SqL C.X.K H p us → Reps C.W (Av S α) H ds us → uC C.X (.type "tuple") vs H Q := fun p us e2 sq rr => by
      refine uC_of call_tupleZ ⟨p, us, by rw [e, e2], sq, fun l o ho hl => ?_⟩
      exact newE (x := .tup ds) em q hl ⟨l, us, rfl, TSq.of (em.off hl) ho upd_same, reps_same (same_new hl) rr⟩ h
    cases a with
    | m k =>
      obtain ⟨p, us, e2, sq, rr⟩ := seq_rep wk em hs h1
      rcases sq with sq | sq
      · exact new p us e2 sq rr
      · -- a list of the store is no tuple
        obtain ⟨p', l, g1, g2⟩ := (show ∃ p l, α[k]? = some (p :: l) ∧ v = .ref p from h1)
        cases e0 : M[k]? with
        | none => simp [seqOf, e0] at hs
        | some m =>
          obtain ⟨l', h3, h4⟩ := paired_get em.rep e0
          rw [g1] at h3; cases h3
          cases m with
          | l es =>
            simp [seqOf, e0] at hs
            subst hs
            obtain ⟨p2, ws, ep, hh, rr2⟩ := h4
            cases ep
            exact new p' ws g2 (SqL.of hh) rr2
          | k _ _ => simp [seqOf, e0] at hs
          | o _ _ => simp [seqOf, e0] at hs
          | dead => simp [seqOf, e0] at hs
    | d x =>
      cases x with
      | tup es =>
        cases hs
        obtain ⟨p, us, e2, t, rr⟩ := (show ∃ a vs, v = .ref a ∧ TSq C.W (Av S α) H a vs ∧ Reps C.W (Av S α) H ds vs from h1)
        refine uC_of call_tuple_of ⟨p, us, by rw [e, e2], .inr ⟨wk ▸ t.sq, ?_⟩⟩
        exact stayE (a := .d (.tup ds)) (v := .ref p) em q ⟨p, us, rfl, t, rr⟩ h
      | lst es =>
        cases hs
        obtain ⟨p, us, e2, t, rr⟩ := (show ∃ a vs, v = .ref a ∧ LSq C.W (Av S α) H a vs ∧ Reps C.W (Av S α) H ds vs from h1)
        exact new p us e2 (wk ▸ t.sq) rr
      | _ => cases hs⟩
end

section
variable {P : Program} {w : World} {K : PySem.W.Frag} {mg : Str → Option Value} {base : Heap} {N gs : List Str} {Vi Li : List Nat} {k : Nat}
variable {C : Ctx} {e e2 a b c o : Expr} {es : List Expr} {st : Stmt} {sts : List Stmt} {ρ : Rho} {M : Mm} {Φ : Kn} {Ψ : AV → Mm → Prop} {x : Str} {pos p : Pos}
theorem Cok.wk (ok : Cok C P w K mg base N gs Vi Li k) : C.W.K = C.X.K := by rw [ok.WK, ok.kE]
/-- f(e, ..), f a built-in function -/
theorem we_callB (ok : Cok C P w K mg base N gs Vi Li k) (i : Nat) {id : String} (hN : gs[i]? = some x) (hm : mg x = none) (hv : bootBuiltins x = some (.builtin id)) (h : WA C (e :: es) ρ M fun as M1 => WC C (.builtin id) as M1 Ψ)
    (hn : x ≠ "__name__" := by decide) (hdb : (x == ("__debug__" : Str)) = false := by decide)
    (he : starEach (e :: es) C.X.env = (false, eval e C.X.env) :: starEach es C.X.env := by rfl) (hpl : (backTo pos (starEach es C.X.env)).any (·.1) = false := by rfl) : WE C (.Call (.Name x p) (e :: es) [] pos) ρ M Ψ := by
  refine ⟨fun S α0 H0 α σ H Q bs g ev q => uE_of (pe_callB call_u (ok.gl i x hN) (by rw [ok.mgE]; exact hm) hv pa_u hn hdb he hpl) ?_⟩
  refine h.run S α0 H0 α σ H _ bs g ev fun as M1 β1 vs H1 p1 em1 g1 r1 => ?_
  exact p1.run S _ H1 Q vs em1 r1 (thnE q g1)
theorem we_callTy (ok : Cok C P w K mg base N gs Vi Li k) (i : Nat) {id : String} (hN : gs[i]? = some x) (hm : mg x = none) (hv : bootBuiltins x = some (.type id)) (h : WA C (e :: es) ρ M fun as M1 => WC C (.type id) as M1 Ψ)
    (hn : x ≠ "__name__" := by decide) (hdb : (x == ("__debug__" : Str)) = false := by decide)
    (he : starEach (e :: es) C.X.env = (false, eval e C.X.env) :: starEach es C.X.env := by rfl) (hpl : (backTo pos (starEach es C.X.env)).any (·.1) = false := by rfl) : WE C (.Call (.Name x p) (e :: es) [] pos) ρ M Ψ := by
  refine ⟨fun S α0 H0 α σ H Q bs g ev q => uE_of (pe_callTy call_u (ok.gl i x hN) (by rw [ok.mgE]; exact hm) hv pa_u hn hdb he hpl) ?_⟩
  refine h.run S α0 H0 α σ H _ bs g ev fun as M1 β1 vs H1 p1 em1 g1 r1 => ?_
  exact p1.run S _ H1 Q vs em1 r1 (thnE q g1)

/-! ### subscripts -/
def uI (X : Cx) : R2 := fun x y H Q => ∀ (value slice : Expr) pins s σ v u, Inv X pins σ H s → RelV x v → RelV y u →
    subscripted slice false v u = operate [v, u] (getItem v u) → wpAny (model X.prog X.w) X.A (PyProof.Rows.subscriptTail value slice v u) (EP X pins σ Q) X.xe s
theorem ix_u {X : Cx} : IxR X (uI X) := fun value slice pins s σ _ _ _ v u _ I rx ry h hs => h value slice pins s σ v u I rx ry hs
theorem uI_of {X : Cx} {r : R2} {x y : V} {H : Hp} {Q : VK} (p : IxR X r) (h : r x y H Q) : uI X x y H Q := fun value slice pins s σ v u I rx ry hs => p value slice pins s σ H x y v u Q I rx ry h hs
structure WI (C : Ctx) (x y : AV) (M : Mm) (Ψ : AV → Mm → Prop) : Prop where
  run : ∀ S α H (Q : VK) v u, EM C.W S α M H → RepA C.W S α H x v → RepA C.W S α H y u → PostE C S α H Ψ Q → uI C.X v u H Q
theorem we_ix (h : WE C a ρ M fun x M1 => WE C b ρ M1 fun y M2 => WI C x y M2 Ψ) (hs : PlainIx b := by exact fun _ _ => rfl) : WE C (.Subscript a b pos) ρ M Ψ := by
  refine ⟨fun S α0 H0 α σ H Q bs g ev q => uE_of (pe_ix ix_u pe_u pe_u hs) ?_⟩
  refine h.run S α0 H0 α σ H _ bs g ev fun x M1 β1 v H1 p1 em1 g1 r1 => ?_
  refine p1.run S α0 H0 (α ++ β1) σ H1 _ bs (g.trans g1) (ev.up g1 em1) fun y M2 β2 u H2 p2 em2 g2 r2 => ?_
  exact p2.run S (α ++ β1 ++ β2) H2 Q v u em2 (r1.up g2) r2 (thnE (thnE q g1) g2)
theorem atI_reps {W : Wd} {S : Addr → Prop} {H : Hp} {ds : List D} {vs : List V} {i : Int} {d : D} (r : Reps W S H ds vs) (h : atI ds i = some d) : ∃ v, atI vs i = some v ∧ Rep W S H d v := by
  unfold atI at h ⊢
  rw [reps_len r]
  cases q : ixN ds.length i with
  | none => rw [q] at h; cases h
  | some j =>
    rw [q] at h
    exact reps_get r h
theorem wi_seq (wk : C.W.K = C.X.K) {a : AV} {i : Int} {ds : List D} {d : D} (hs : seqOf M a = some ds) (hi : atI ds i = some d) (h : Ψ (.d d) M) : WI C a (.d (.int i)) M Ψ :=
  ⟨fun S α H Q v u em r1 r2 q => by
    obtain ⟨p, us, e2, sq, rr⟩ := seq_rep wk em hs r1
    obtain ⟨y, h1, h2⟩ := atI_reps rr hi
    refine uI_of ix_seq ?_
    rcases sq with sq | sq
    · exact .inl ⟨p, us, i, y, e2, r2, sq, h1, stayE (a := .d d) em q h2 h⟩
    · exact .inr (.inl ⟨p, us, i, y, e2, r2, sq, h1, stayE (a := .d d) em q h2 h⟩)⟩
theorem wi_str {x : Str} {i : Int} {c : Nat} (hl : x.length ≤ 1000000) (hi : atI x.cps.toList i = some c) (h : Ψ (.d (.str ⟨#[c]⟩)) M) : WI C (.d (.str x)) (.d (.int i)) M Ψ :=
  ⟨fun S α H Q v u em r1 r2 q => uI_of ix_seq (.inr (.inr ⟨x, i, c, r1, r2, by rw [sizeLine_eq]; omega, hi, stayE (a := .d (.str ⟨#[c]⟩)) em q rfl h⟩))⟩

/-! ### the store is written -/
theorem paired_ne {α : Als} {T T' : MO → List Addr → Prop} {k : Nat} {l0 : List Addr} (hk : α[k]? = some l0) (nd : α.flatten.Nodup) (hn : ∀ l m, (∀ b ∈ l, b ∉ l0) → T m l → T' m l) : ∀ {M : Mm}, Paired T M α → ∀ m', T' m' l0 → Paired T' (M.set k m') α := by
  induction α generalizing k with
  | nil => simp at hk
  | cons a r ih =>
    intro M p m' h'
    rw [List.flatten_cons, List.nodup_append] at nd
    obtain ⟨n1, n2, n3⟩ := nd
    cases p with
    | cons h t =>
      cases k with
      | zero =>
        simp at hk; subst hk
        rw [List.set_cons_zero]
        refine .cons h' ?_
        -- the rest is apart
        have go : ∀ {r : Als} {M : Mm}, (∀ l ∈ r, ∀ b ∈ l, b ∉ a) → Paired T M r → Paired T' M r := by
          intro r M hr p
          induction p with
          | nil => exact .nil
          | cons x y ih => exact .cons (hn _ _ (hr _ List.mem_cons_self) x) (ih fun l hl => hr l (List.mem_cons_of_mem _ hl))
        exact go (fun l hl b hb hb' => n3 b hb' b (List.mem_flatten.mpr ⟨l, hl, hb⟩) rfl) t
      | succ k =>
        rw [List.set_cons_succ]
        have hk' : r[k]? = some l0 := by simpa using hk
        refine .cons (hn _ _ (fun b hb hb' => n3 b hb b (List.mem_flatten.mpr ⟨l0, List.mem_of_getElem? hk', hb'⟩) rfl) h) (ih hk' n2 t m' h')
/-- the k-th thing of the store gets another content -/
theorem EM.put {W : Wd} {S : Addr → Prop} {α : Als} {M : Mm} {H : Hp} {k : Nat} {p : Addr} {o : HO} {m' : MO} (em : EM W S α M H) (hk : α[k]? = some [p]) (new : MRep W (Av S α) (upd H p o) m' [p]) : EM W S α (M.set k m') (upd H p o) ∧ Gr α [] H (upd H p o) := by
  have hav : Av S α p := .inr ⟨[p], List.mem_of_getElem? hk, by simp⟩
  have st : ∀ b, H b ≠ none → (upd H p o) b ≠ none := fun b hb => by
    by_cases e : b = p
    · subst e; rw [upd_same]; simp
    · rw [upd_ne e]; exact hb
  refine ⟨⟨paired_ne hk em.nd (fun l m hl r => ?_) em.rep m' new, em.nd, fun b hb => st b (em.trk b hb)⟩, ⟨fun b x n e => ?_, st, fun l hl => by simp at hl⟩⟩
  · refine r.tr (fun b z => .inl z) (fun b x n e => ?_) fun b x hb e => ?_
    · rw [upd_ne (fun z => n (by rw [z]; exact hav))]; exact e
    · rw [upd_ne (fun z => hl b hb (by simp [z]))]; exact e
  · rw [upd_ne (fun z => n [p] (List.mem_of_getElem? hk) (by simp [z]))]; exact e
theorem reps_put {W : Wd} {S : Addr → Prop} {α : Als} {H : Hp} {k : Nat} {p : Addr} {o : HO} (hk : α[k]? = some [p]) {ds : List D} {vs : List V} (r : Reps W (Av S α) H ds vs) : Reps W (Av S α) (upd H p o) ds vs :=
  Reps.tr (fun _ z => .inl z) (fun b x n e => by rw [upd_ne (fun z => n (by rw [z]; exact .inr ⟨[p], List.mem_of_getElem? hk, by simp⟩))]; exact e) _ _ r
theorem rep_put {W : Wd} {S : Addr → Prop} {α : Als} {H : Hp} {k : Nat} {p : Addr} {o : HO} (hk : α[k]? = some [p]) {ds : D} {vs : V} (r : Rep W (Av S α) H ds vs) : Rep W (Av S α) (upd H p o) ds vs :=
  Rep.tr (fun _ z => .inl z) (fun b x n e => by rw [upd_ne (fun z => n (by rw [z]; exact .inr ⟨[p], List.mem_of_getElem? hk, by simp⟩))]; exact e) _ _ r
/-- a list of the store -/
theorem cell_l {W : Wd} {S : Addr → Prop} {α : Als} {M : Mm} {H : Hp} {k : Nat} {ds : List D} {v : V} (em : EM W S α M H) (hk : M[k]? = some (.l ds)) (r : RepA W S α H (.m k) v) : ∃ p vs, v = .ref p ∧ α[k]? = some [p] ∧ H p = some (.lst vs) ∧ Reps W (Av S α) H ds vs := by
  obtain ⟨p, l, h1, h2⟩ := (show ∃ p l, α[k]? = some (p :: l) ∧ v = .ref p from r)
  obtain ⟨l', h3, h4⟩ := paired_get em.rep hk
  rw [h1] at h3; cases h3
  obtain ⟨p', vs, ep, hh, rr⟩ := h4
  cases ep
  exact ⟨p, vs, h2, h1, hh, rr⟩
theorem cell_k {W : Wd} {S : Addr → Prop} {α : Als} {M : Mm} {H : Hp} {k : Nat} {ks : List Key} {ds : List D} {v : V} (em : EM W S α M H) (hk : M[k]? = some (.k ks ds)) (r : RepA W S α H (.m k) v) : ∃ p vs, v = .ref p ∧ α[k]? = some [p] ∧ H p = some (.dK (ks.zip vs)) ∧ vs.length = ks.length ∧ Reps W (Av S α) H ds vs := by
  obtain ⟨p, l, h1, h2⟩ := (show ∃ p l, α[k]? = some (p :: l) ∧ v = .ref p from r)
  obtain ⟨l', h3, h4⟩ := paired_get em.rep hk
  rw [h1] at h3; cases h3
  obtain ⟨p', vs, ep, hh, hz, rr⟩ := h4
  cases ep
  exact ⟨p, vs, h2, h1, hh, hz, rr⟩
theorem cell_o {W : Wd} {S : Addr → Prop} {α : Als} {M : Mm} {H : Hp} {k c : Nat} {ds : List D} {v : V} (em : EM W S α M H) (hk : M[k]? = some (.o c ds)) (r : RepA W S α H (.m k) v) : ∃ p dx vs, v = .ref p ∧ α[k]? = some [p] ∧ H p = some (.ins (W.ca c) dx ((W.cf c).zip vs)) ∧ vs.length ≤ (W.cf c).length ∧ Reps W (Av S α) H ds vs := by
  obtain ⟨p, l, h1, h2⟩ := (show ∃ p l, α[k]? = some (p :: l) ∧ v = .ref p from r)
  obtain ⟨l', h3, h4⟩ := paired_get em.rep hk
  rw [h1] at h3; cases h3
  obtain ⟨p', dx, vs, ep, hh, hz, rr⟩ := h4
  cases ep
  exact ⟨p, dx, vs, h2, h1, hh, hz, rr⟩

/-- o[i] = v by values -/
structure WSet (C : Ctx) (x y z : AV) (M : Mm) (R : Mm → Prop) : Prop where
  run : ∀ S α H (Q : Hp → Prop) xv yv zv, EM C.W S α M H → RepA C.W S α H x xv → RepA C.W S α H y yv → RepA C.W S α H z zv →
    (∀ M' H', R M' → EM C.W S α M' H' → Gr α [] H H' → Q H') →
    ∀ pins s σ ov iv u, Inv C.X pins σ H s → RelV xv ov → RelV yv iv → RelV zv u → wpAny (model C.X.prog C.X.w) C.X.A (setItem ov iv u) (fun _ s' => ∃ H', Inv C.X pins σ H' s' ∧ Q H') C.X.xe s
theorem w1_setix {i o : Expr} {pos' : Pos} (h : WE C e ρ M fun z M1 => WE C o ρ M1 fun x M2 => WE C i ρ M2 fun y M3 => WSet C x y z M3 fun M4 => Φ.nx ρ M4)
    (hs : swapsWithSole [.Subscript o i pos'] e pos.line C.X.env = pure false := by rfl) (hw : swappedStores [.Subscript o i pos'] e C.X.env = pure none := by rfl)
    (h1 : (assignEach [.Subscript o i pos'] C.X.env).map (·.2) = [assign (.Subscript o i pos') C.X.env] := by rfl)
    (ha : ∀ v, assign (.Subscript o i pos') C.X.env v = (do
      let ov ← holding [v] (eval o C.X.env)
      let iv ← holding [v, ov] (eval i C.X.env)
      standAt pos'
      holding [v, ov, iv] (setItem ov iv v)
      release [v, ov, iv] []) := by intro _; rfl) : W1 C (.Assign [.Subscript o i pos'] e pos) ρ M Φ := by
  refine ⟨fun S α0 H0 α σ H D bs g ev f => uS_of (ps_asg pe_u (pg_sub (t := fun xv yv zv H Q => ∀ pins s σ ov iv u, Inv C.X pins σ H s → RelV xv ov → RelV yv iv → RelV zv u → wpAny (model C.X.prog C.X.w) C.X.A (setItem ov iv u) (fun _ s' => ∃ H', Inv C.X pins σ H' s' ∧ Q H') C.X.xe s)
    pe_u pe_u (fun pins s σ H o i v ov iv u Q I ro ri rv h => h pins s σ ov iv u I ro ri rv) ha) hs hw h1) ?_⟩
  show uE C.X e σ H fun zv H1 => uE C.X o σ H1 fun xv H2 => uE C.X i σ H2 fun yv H3 => _
  refine h.run S α0 H0 α σ H _ bs g ev fun z M1 β1 zv H1 p1 em1 g1 r1 => ?_
  refine p1.run S α0 H0 (α ++ β1) σ H1 _ bs (g.trans g1) (ev.up g1 em1) fun x M2 β2 xv H2 p2 em2 g2 r2 => ?_
  refine p2.run S α0 H0 (α ++ β1 ++ β2) σ H2 _ bs ((g.trans g1).trans g2) ((ev.up g1 em1).up g2 em2) fun y M3 β3 yv H3 p3 em3 g3 r3 => ?_
  refine p3.run S _ H3 (fun H4 => D.nx σ H4) xv yv zv em3 (r2.up g3) r3 ((r1.up g2).up g3) fun M4 H4 p4 em4 g4 => ?_
  have gg := ((g.trans g1).trans g2).trans g3
  have e4 : α ++ β1 ++ β2 ++ β3 ++ [] = α ++ β1 ++ β2 ++ β3 := app_nil _
  refine f.nx ρ M4 (α ++ β1 ++ β2 ++ β3 ++ []) σ H4 p4 ?_ (gg.trans g4)
  exact (((ev.up g1 em1).up g2 em2).up g3 em3).up g4 (by rw [e4]; exact em4)
theorem wset_l {k : Nat} {ds : List D} {i : Int} {j : Nat} {z : D} {R : Mm → Prop} (hk : M[k]? = some (.l ds)) (hi : ixN ds.length i = some j) (h : R (M.set k (.l (ds.set j z)))) : WSet C (.m k) (.d (.int i)) (.d z) M R := by
  refine ⟨fun S α H Q xv yv zv em r1 r2 r3 q pins s σ ov iv u I ro ri rv => ?_⟩
  obtain ⟨p, vs, e, ha, hh, rr⟩ := cell_l em hk r1
  refine set_list pins s σ H xv yv zv ov iv u _ I ro ri rv ⟨p, vs, i, j, e, r2, hh, by rw [reps_len rr]; exact hi, ?_⟩
  obtain ⟨em', g'⟩ := em.put (o := .lst (vs.set j zv)) (m' := .l (ds.set j z)) ha ⟨p, _, rfl, upd_same, reps_put ha (reps_set j rr r3)⟩
  exact q _ _ h em' g'

/-! ### methods of built-in types -/
/-- the built-in type of a value -/
def tyOf (M : Mm) : AV → Option String
  | .d (.str _) => some "str"
  | .d (.int _) => some "int"
  | .d (.lst _) => some "list"
  | .m k => match M[k]? with
    | some (.l _) => some "list"
    | some (.k _ _) => some "dict"
    | _ => none
  | .d (.dk _ _) => some "dict"
  | _ => none
theorem tyOf_ok (wk : C.W.K = C.X.K) {S : Addr → Prop} {α : Als} {H : Hp} (em : EM C.W S α M H) : ∀ {a : AV} {v : V} {T : String}, tyOf M a = some T → RepA C.W S α H a v → tyV C.X.K T v H
  | .d (.str z), v, T, e, r => by cases e; rw [show v = .str z from r]; exact rfl
  | .d (.int z), v, T, e, r => by cases e; rw [show v = .int z from r]; exact rfl
  | .d (.lst es), v, T, e, r => by
    cases e
    obtain ⟨a, vs, e, t, rr⟩ := (show ∃ a vs, v = .ref a ∧ LSq C.W (Av S α) H a vs ∧ Reps C.W (Av S α) H es vs from r)
    rw [e]; exact .inl ⟨rfl, vs, wk ▸ t.sq⟩
  | .d (.dk ks es), v, T, e, r => by
    cases e
    obtain ⟨a, vs, e, n, t, rr⟩ := (show ∃ a vs, v = .ref a ∧ ¬ Av S α a ∧ H a = some (.dK (ks.zip vs)) ∧ vs.length = ks.length ∧ Reps C.W (Av S α) H es vs from r)
    rw [e]; exact .inr (.inr (.inl ⟨rfl, .inl ⟨_, t⟩⟩))
  | .m k, v, T, e, r => by
    cases q : M[k]? with
    | none => simp [tyOf, q] at e
    | some m =>
      cases m with
      | l ds =>
        simp [tyOf, q] at e; subst e
        obtain ⟨p, vs, e, ha, hh, rr⟩ := cell_l em q r
        rw [e]; exact .inl ⟨rfl, vs, SqL.of hh⟩
      | k ks ds =>
        simp [tyOf, q] at e; subst e
        obtain ⟨p, vs, e, ha, hh, hz, rr⟩ := cell_k em q r
        rw [e]; exact .inr (.inr (.inl ⟨rfl, .inl ⟨_, hh⟩⟩))
      | o _ _ => simp [tyOf, q] at e
      | dead => simp [tyOf, q] at e
  | .d .non, v, T, e, r => by cases e
  | .d (.bl _), v, T, e, r => by cases e
  | .d (.fn _), v, T, e, r => by cases e
  | .d (.ty _), v, T, e, r => by cases e
  | .d (.ob _ _), v, T, e, r => by cases e
  | .d (.tup _), v, T, e, r => by cases e
  | .d (.tw _), v, T, e, r => by cases e
def uM (X : Cx) (id : String) : V → List V → Hp → VK → Prop := fun x xs H Q => ∀ pins s σ v us, Inv X pins σ H s → RelV x v → Vals xs us → wpAny (model X.prog X.w) X.A (call (.builtin id) (v :: us)) (EP X pins σ Q) X.xe s
theorem mt_u {X : Cx} {id : String} : MtR X id (uM X id) := fun pins s σ _ _ _ v us _ I r rs h => h pins s σ v us I r rs
theorem uM_of {X : Cx} {id : String} {r : V → List V → Hp → VK → Prop} {x : V} {xs : List V} {H : Hp} {Q : VK} (p : MtR X id r) (h : r x xs H Q) : uM X id x xs H Q := fun pins s σ v us I rx rs => p pins s σ H x xs v us Q I rx rs h
structure WM (C : Ctx) (id : String) (x : AV) (as : List AV) (M : Mm) (Ψ : AV → Mm → Prop) : Prop where
  run : ∀ S α H (Q : VK) v vs, EM C.W S α M H → RepA C.W S α H x v → RepsA C.W S α H as vs → PostE C S α H Ψ Q → uM C.X id v vs H Q
theorem we_bm (wk : C.W.K = C.X.K) {T id : String} {name : Str} {apos cpos : Pos} (pa : PlainAttrs T) (slot : Slot T name id) (hty : typeOf (.builtin id) = pure (.type "method_descriptor"))
    (h : WE C o ρ M fun x M1 => tyOf M1 x = some T ∧ WA C (e :: es) ρ M1 fun as M2 => WM C id x as M2 Ψ)
    (hbase : attributeBase o name C.X.env (eval o C.X.env) = eval o C.X.env := by rfl)
    (hfew : ((backTo cpos (starEach (e :: es) C.X.env)).all (fun x => !x.1) && (backToKw cpos (keywordEach [] C.X.env)).all (fun x => x.1.isSome)
      && decide ((e :: es).length + ([] : List Keyword).length + (if ([] : List Keyword).isEmpty then 0 else 1) < 30)) = true := by rfl)
    (hline : (apos.endLine == cpos.line) = true := by rfl) (hs : starEach (e :: es) C.X.env = (false, eval e C.X.env) :: starEach es C.X.env := by rfl) (hplain : (backTo cpos (starEach es C.X.env)).any (·.1) = false := by rfl) :
    WE C (.Call (.Attribute o name apos) (e :: es) [] cpos) ρ M Ψ := by
  refine ⟨fun S α0 H0 α σ H Q bs g ev q => uE_of (pe_bm pa slot hty mt_u pe_u pa_u hbase hfew hline hs hplain) ?_⟩
  refine h.run S α0 H0 α σ H _ bs g ev fun x M1 β1 v H1 p1 em1 g1 r1 => ?_
  refine ⟨tyOf_ok wk em1 p1.1 r1, ?_⟩
  refine p1.2.run S α0 H0 (α ++ β1) σ H1 _ bs (g.trans g1) (ev.up g1 em1) fun as M2 β2 vs H2 p2 em2 g2 r2 => ?_
  exact p2.run S (α ++ β1 ++ β2) H2 Q v vs em2 (r1.up g2) r2 (thnE (thnE q g1) g2)
theorem we_bm0 (wk : C.W.K = C.X.K) {T id : String} {name : Str} {apos cpos : Pos} (pa : PlainAttrs T) (slot : Slot T name id) (hty : typeOf (.builtin id) = pure (.type "method_descriptor"))
    (h : WE C o ρ M fun x M1 => tyOf M1 x = some T ∧ WM C id x [] M1 Ψ)
    (hbase : attributeBase o name C.X.env (eval o C.X.env) = eval o C.X.env := by rfl) (hline : (apos.endLine == cpos.line) = true := by rfl) :
    WE C (.Call (.Attribute o name apos) [] [] cpos) ρ M Ψ := by
  refine ⟨fun S α0 H0 α σ H Q bs g ev q => uE_of (pe_bm0 pa slot hty mt_u pe_u hbase hline) ?_⟩
  refine h.run S α0 H0 α σ H _ bs g ev fun x M1 β1 v H1 p1 em1 g1 r1 => ?_
  exact ⟨tyOf_ok wk em1 p1.1 r1, p1.2.run S (α ++ β1) H1 Q v [] em1 r1 rfl (thnE q g1)⟩
theorem wm_append {k : Nat} {ds : List D} {d : D} (hk : M[k]? = some (.l ds)) (hl : ds.length < 10000000) (h : Ψ (.d .non) (M.set k (.l (ds ++ [d])))) : WM C "list.append" (.m k) [.d d] M Ψ := by
  refine ⟨fun S α H Q v vs em r1 r2 q => ?_⟩
  obtain ⟨p, us, e, ha, hh, rr⟩ := cell_l em hk r1
  obtain ⟨y, e2, h2⟩ := reps1 r2
  refine uM_of mt_append ⟨p, us, y, e, e2, hh, by rw [reps_len rr, sizeLine_eq]; omega, ?_⟩
  obtain ⟨em', g'⟩ := em.put (o := .lst (us ++ [y])) (m' := .l (ds ++ [d])) ha ⟨p, _, rfl, upd_same, reps_put ha (reps_app rr (reps_cons h2 reps_nil))⟩
  exact q _ _ [] .non _ h (by rw [app_nil]; exact em') g' rfl
theorem we_bits {i : Int} {apos : Pos} (h : WE C o ρ M fun x M1 => ∃ i, x = .d (.int i) ∧ Ψ (.d (.int (Builtin.Int.intBits i : Nat))) M1)
    (hbase : attributeBase o "bit_length" C.X.env (eval o C.X.env) = eval o C.X.env := by rfl) (hline : (apos.endLine == pos.line) = true := by rfl) : WE C (.Call (.Attribute o "bit_length" apos) [] [] pos) ρ M Ψ := by
  refine ⟨fun S α0 H0 α σ H Q bs g ev q => uE_of (pe_bits pe_u hbase hline) ?_⟩
  refine h.run S α0 H0 α σ H _ bs g ev fun x M1 β1 v H1 p1 em1 g1 r1 => ?_
  obtain ⟨i, e, hh⟩ := p1
  subst e
  exact ⟨i, r1, stayE (a := .d (.int (Builtin.Int.intBits i : Nat))) (v := .int (Builtin.Int.intBits i : Nat)) em1 (thnE q g1) rfl hh⟩
end
end Dl

/-! DL5: defs, their promises over data, calls, instances. -/
namespace Dl
open PySem L2

/-- a def's promise over data: arguments, store, what is wanted of the result and the store, of an exception -/
abbrev DSp := List AV → Mm → (AV → Mm → Prop) → (Nat → List D → Mm → Prop) → Prop
def spOf (W : Wd) (n0 : Nat) (dsp : DSp) : Sp := fun vs H Q E => ∃ (S : Addr → Prop) (α : Als) (M : Mm) (as : List AV) (Ψ : AV → Mm → Prop) (T : Nat → List D → Mm → Prop),
  EM W S α M H ∧ M.length = n0 ∧ RepsA W S α H as vs ∧ dsp as M Ψ T ∧
  (∀ a M' β v H', Ψ a M' → EM W S (α ++ β) M' H' → Gr α β H H' → RepA W S (α ++ β) H' a v → Q v H') ∧
  (∀ c ds M' β H' cls dA, T c ds M' → EM W S (α ++ β) M' H' → Gr α β H H' → XRep W (Av S (α ++ β)) H' c ds cls dA → E cls dA H')
/-- the def that the module's name x holds -/
structure Fk (P : Program) (w : World) (K : PySem.W.Frag) (mg : Str → Option Value) (base : Heap) (W : Wd) (x : Str) (ps : List Str) (n0 : Nat) (dsp : DSp) (k : Nat) : Prop where
  ex : ∃ f fd, FnOk P w K mg base (L2.CX P w) k f fd ps (spOf W n0 dsp) ∧ mg x = some (.ref f) ∧ PySem.W.keepIn K (.ref f) = true ∧ Binds K fd ps []

theorem repsA_len {W : Wd} {S : Addr → Prop} {α : Als} {H : Hp} : ∀ {as : List AV} {vs : List V}, RepsA W S α H as vs → vs.length = as.length
  | [], vs, r => by rw [show vs = [] from r]; rfl
  | a :: as, vs, r => by
    obtain ⟨v, r, e, h, t⟩ := (show ∃ v r, vs = v :: r ∧ RepA W S α H a v ∧ RepsA W S α H as r from r)
    rw [e, List.length_cons, List.length_cons, repsA_len t]

section
variable {C : Ctx} {S : Addr → Prop} {α : Als} {M : Mm} {H : Hp} {Ψ : AV → Mm → Prop} {Q : VK}
/-- the callee's store is empty -/
def sh0 (n : Nat) : AV → AV
  | .d x => .d x
  | .m j => .m (n + j)
theorem av0 {b : Addr} : Av (Av S α) [] b → Av S α b := fun h => by
  rcases h with h | ⟨l, hl, _⟩
  · exact h
  · simp at hl
theorem av_nest {γ β : Als} (hγ : ∀ l ∈ γ, l ∈ α) {b : Addr} : Av S (α ++ β) b → Av (Av S α) (γ ++ β) b := fun h => by
  rcases av_app h with h | ⟨l, hl, hb⟩
  · exact .inl h
  · exact .inr ⟨l, List.mem_append_right _ hl, hb⟩
theorem av_nest' {γ β : Als} (hγ : ∀ l ∈ γ, l ∈ α) {b : Addr} : Av (Av S α) (γ ++ β) b → Av S (α ++ β) b := fun h => by
  rcases h with h | ⟨l, hl, hb⟩
  · exact av_mono h
  · rcases List.mem_append.mp hl with q | q
    · exact av_mono (.inr ⟨l, hγ l q, hb⟩)
    · exact .inr ⟨l, List.mem_append_right _ q, hb⟩
theorem nodup_join {β : Als} (h1 : α.flatten.Nodup) (h2 : β.flatten.Nodup) (h : ∀ l ∈ β, ∀ b ∈ l, ∀ l' ∈ α, b ∉ l') : (α ++ β).flatten.Nodup := by
  rw [List.flatten_append, List.nodup_append]
  refine ⟨h1, h2, fun a ha b hb e => ?_⟩
  obtain ⟨l, hl, hb'⟩ := List.mem_flatten.mp hb
  obtain ⟨l', hl', ha'⟩ := List.mem_flatten.mp ha
  exact h l hl b hb' l' hl' (e ▸ ha')
theorem repsA0 {W : Wd} : ∀ {as : List AV} {ds : List D} {vs : List V}, unD as = some ds → RepsA W S α H as vs → RepsA W (Av S α) [] H as vs
  | [], ds, vs, e, r => r
  | .d x :: as, ds, vs, e, r => by
    obtain ⟨v, r, ev, h, t⟩ := (show ∃ v r, vs = v :: r ∧ RepA W S α H (.d x) v ∧ RepsA W S α H as r from r)
    have e' : (unD as).map (x :: ·) = some ds := e
    cases q : unD as with
    | none => rw [q] at e'; cases e'
    | some es => exact ⟨v, r, ev, Rep.less (fun b z => av0 z) (show Rep W (Av S α) H x v from h), repsA0 q t⟩
  | .m k :: as, ds, vs, e, r => by cases e
/-- behind a call that was handed nothing of the store -/
theorem back0 {W : Wd} {M' : Mm} {β : Als} {H' : Hp} {a : AV} {v : V} (em : EM W S α M H) (e' : EM W (Av S α) ([] ++ β) M' H') (g : Gr [] β H H') (r : RepA W (Av S α) ([] ++ β) H' a v) :
    EM W S (α ++ β) (M ++ M') H' ∧ Gr α β H H' ∧ RepA W S (α ++ β) H' (sh0 M.length a) v := by
  have g' : Gr α β H H' := ⟨fun b o _ e => g.kp b o (fun l hl => by simp at hl) e, g.st, g.fr⟩
  have up : ∀ b, Av S (α ++ β) b → Av S α b ∨ H b = none := fun b hb => by
    rcases av_app hb with z | ⟨l, hl, z⟩
    · exact .inl z
    · exact .inr (g.fr l hl b z)
  have kp : ∀ b o, H b = some o → H' b = some o := fun b o e => g.kp b o (fun l hl => by simp at hl) e
  refine ⟨⟨paired_app (Paired.mapP em.rep fun m l r => r.tr up (fun b o _ e => kp b o e) fun b o _ e => kp b o e) (Paired.mapP e'.rep fun m l r => r.tr (fun b z => .inl ?_) (fun _ _ _ e => e) fun _ _ _ e => e), nodup_join em.nd e'.nd fun l hl b hb l' hl' hb' => ?_, fun b hb => g.st b (em.trk b hb)⟩, g', ?_⟩
  · exact av_nest (γ := []) (fun l hl => by simp at hl) z
  · exact em.trA b (.inr ⟨l', hl', hb'⟩) (g.fr l hl b hb)
  · cases a with
    | d x => exact Rep.less (fun b z => av_nest (γ := []) (fun l hl => by simp at hl) z) (show Rep W (Av (Av S α) ([] ++ β)) H' x v from r)
    | m j =>
      obtain ⟨p, l, h1, h2⟩ := (show ∃ p l, ([] ++ β)[j]? = some (p :: l) ∧ v = .ref p from r)
      refine ⟨p, l, ?_, h2⟩
      rw [em.len, List.getElem?_append_right (Nat.le_add_right _ _), Nat.add_sub_cancel_left]
      exact h1
/-- the callee is handed the k-th thing alone -/
def ren1 (k : Nat) : AV → AV
  | .d x => .d x
  | .m j => if j = k then .m 0 else .m 1
def sh1 (k n : Nat) : AV → AV
  | .d x => .d x
  | .m 0 => .m k
  | .m (j + 1) => .m (n + j)
def only1 (k : Nat) : List AV → Bool
  | [] => true
  | .d _ :: r => only1 k r
  | .m j :: r => (j == k) && only1 k r
theorem nodup_of_mem {l0 : List Addr} : ∀ {α : Als}, α.flatten.Nodup → l0 ∈ α → l0.Nodup
  | [], _, h => by simp at h
  | a :: r, nd, h => by
    rw [List.flatten_cons, List.nodup_append] at nd
    rcases List.mem_cons.mp h with e | h
    · rw [e]; exact nd.1
    · exact nodup_of_mem nd.2.1 h
theorem repsA1 {W : Wd} {k : Nat} {l0 : List Addr} (hk : α[k]? = some l0) : ∀ {as : List AV} {vs : List V}, only1 k as = true → RepsA W S α H as vs → RepsA W (Av S α) [l0] H (as.map (ren1 k)) vs
  | [], vs, e, r => r
  | .d x :: as, vs, e, r => by
    obtain ⟨v, r, ev, h, t⟩ := (show ∃ v r, vs = v :: r ∧ RepA W S α H (.d x) v ∧ RepsA W S α H as r from r)
    refine ⟨v, r, ev, ?_, repsA1 hk (show only1 k as = true from e) t⟩
    refine Rep.less (fun b z => ?_) (show Rep W (Av S α) H x v from h)
    rcases z with z | ⟨l, hl, z⟩
    · exact z
    · simp at hl; subst hl; exact .inr ⟨l, List.mem_of_getElem? hk, z⟩
  | .m j :: as, vs, e, r => by
    obtain ⟨v, r, ev, h, t⟩ := (show ∃ v r, vs = v :: r ∧ RepA W S α H (.m j) v ∧ RepsA W S α H as r from r)
    have e' : ((j == k) && only1 k as) = true := e
    rw [Bool.and_eq_true] at e'
    refine ⟨v, r, ev, ?_, repsA1 hk e'.2 t⟩
    have ej : j = k := by simpa using e'.1
    subst ej
    obtain ⟨p, l, h1, h2⟩ := (show ∃ p l, α[j]? = some (p :: l) ∧ v = .ref p from h)
    rw [hk] at h1; cases h1
    show RepA W (Av S α) [p :: l] H (if j = j then .m 0 else .m 1) v
    rw [if_pos rfl]
    exact ⟨p, l, rfl, h2⟩
theorem em1 {W : Wd} {k : Nat} {c : MO} {l0 : List Addr} (em : EM W S α M H) (hk : α[k]? = some l0) (hc : MRep W (Av S α) H c l0) : EM W (Av S α) [l0] [c] H := by
  refine ⟨.cons (hc.tr (fun b z => .inl ?_) (fun _ _ _ e => e) fun _ _ _ e => e) .nil, ?_, em.trA⟩
  · rcases z with z | ⟨l, hl, z⟩
    · exact z
    · simp at hl; subst hl; exact .inr ⟨l, List.mem_of_getElem? hk, z⟩
  · have : l0.Nodup := nodup_of_mem em.nd (List.mem_of_getElem? hk)
    simpa using this
theorem back1 {W : Wd} {M' : Mm} {k : Nat} {c' : MO} {l0 : List Addr} {β : Als} {H' : Hp} {a : AV} {v : V} (em : EM W S α M H) (hk : α[k]? = some l0) (e' : EM W (Av S α) ([l0] ++ β) (c' :: M') H') (g : Gr [l0] β H H') (r : RepA W (Av S α) ([l0] ++ β) H' a v) :
    EM W S (α ++ β) (M.set k c' ++ M') H' ∧ Gr α β H H' ∧ RepA W S (α ++ β) H' (sh1 k M.length a) v := by
  have hmem : l0 ∈ α := List.mem_of_getElem? hk
  have g' : Gr α β H H' := ⟨fun b o n e => g.kp b o (fun l hl => by simp at hl; subst hl; exact n l hmem) e, g.st, g.fr⟩
  have up : ∀ b, Av S (α ++ β) b → Av S α b ∨ H b = none := fun b hb => by
    rcases av_app hb with z | ⟨l, hl, z⟩
    · exact .inl z
    · exact .inr (g.fr l hl b z)
  have sub : ∀ b, Av S (α ++ β) b → Av (Av S α) ([l0] ++ β) b := fun b z => av_nest (γ := [l0]) (fun l hl => by simp at hl; subst hl; exact hmem) z
  have sub' : ∀ b, Av (Av S α) ([l0] ++ β) b → Av S (α ++ β) b := fun b z => av_nest' (γ := [l0]) (fun l hl => by simp at hl; subst hl; exact hmem) z
  cases e'.rep with
  | cons hc hr =>
    refine ⟨⟨paired_app (paired_ne hk em.nd (fun l m hl r => ?_) em.rep c' (hc.tr (fun b z => .inl (sub b z)) (fun _ _ _ e => e) fun _ _ _ e => e)) (Paired.mapP hr fun m l r => r.tr (fun b z => .inl (sub b z)) (fun _ _ _ e => e) fun _ _ _ e => e), nodup_join em.nd ?_ fun l hl b hb l' hl' hb' => ?_, fun b hb => g.st b (em.trk b hb)⟩, g', ?_⟩
    · refine r.tr up (fun b o n e => ?_) fun b o hb e => ?_
      · exact g.kp b o (fun l hl z => by simp at hl; subst hl; exact n (.inr ⟨l, hmem, z⟩)) e
      · exact g.kp b o (fun l' hl' z => by simp at hl'; subst hl'; exact hl b hb z) e
    · have := e'.nd
      rw [List.flatten_append, List.nodup_append] at this
      exact this.2.1
    · exact em.trA b (.inr ⟨l', hl', hb'⟩) (g.fr l hl b hb)
    · cases a with
      | d x => exact Rep.less (fun b z => sub b z) (show Rep W (Av (Av S α) ([l0] ++ β)) H' x v from r)
      | m j =>
        obtain ⟨p, l, h1, h2⟩ := (show ∃ p l, ([l0] ++ β)[j]? = some (p :: l) ∧ v = .ref p from r)
        cases j with
        | zero =>
          simp at h1
          refine ⟨p, l, ?_, h2⟩
          rw [← h1]; exact get_app hk
        | succ j =>
          refine ⟨p, l, ?_, h2⟩
          show (α ++ β)[M.length + j]? = _
          rw [em.len, List.getElem?_append_right (Nat.le_add_right _ _), Nat.add_sub_cancel_left]
          simpa using h1
end

section
variable {P : Program} {w : World} {K : PySem.W.Frag} {mg : Str → Option Value} {base : Heap} {N gs ps : List Str} {Vi Li : List Nat} {k : Nat}
variable {C : Ctx} {e e2 a b c o : Expr} {es : List Expr} {st : Stmt} {sts : List Stmt} {ρ : Rho} {M : Mm} {Φ : Kn} {Ψ : AV → Mm → Prop} {x : Str} {pos p : Pos}
/-- what a call without store wants; with the j-th thing of the store -/
def call0 (C : Ctx) (ρ : Rho) (dsp : DSp) (as : List AV) (M1 : Mm) (Ψ : AV → Mm → Prop) : Prop :=
  dsp as [] (fun a M' => Ψ (sh0 M1.length a) (M1 ++ M')) (fun c ds M' => C.T c ds ρ (M1 ++ M'))
def call1 (C : Ctx) (ρ : Rho) (j : Nat) (dsp : DSp) (as : List AV) (M1 : Mm) (Ψ : AV → Mm → Prop) : Prop :=
  ∃ c, M1[j]? = some c ∧ dsp (as.map (ren1 j)) [c] (fun a M' => ∃ c' r, M' = c' :: r ∧ Ψ (sh1 j M1.length a) (M1.set j c' ++ r)) (fun cl ds M' => ∃ c' r, M' = c' :: r ∧ C.T cl ds ρ (M1.set j c' ++ r))
/-- the promise of a callee, at a state -/
theorem spO0 {S : Addr → Prop} {α0 α : Als} {H0 H : Hp} {σ : L2.St} {dsp : DSp} {as : List AV} {vs : List V} {Q : VK} {Wx : WX} {ds : List D} (g : Gr0 α0 α H0 H) (ev : Ev C.W S α ρ M σ H)
    (tk : ∀ c ds ρ M α σ H cls dA, C.T c ds ρ M → Ev C.W S α ρ M σ H → Gr0 α0 α H0 H → XRep C.W (Av S α) H c ds cls dA → Wx cls dA σ H)
    (hu : unD as = some ds) (r : RepsA C.W S α H as vs) (q : PostE C S α H Ψ Q) (h : call0 C ρ dsp as M Ψ) : spOf C.W 0 dsp vs H Q (fun cls d H' => Wx cls d σ H') := by
  refine ⟨Av S α, [], [], as, _, _, ⟨.nil, by simp, ev.em.trA⟩, rfl, repsA0 hu r, h, fun a M' β v H' p em' g' r' => ?_, fun c ds M' β H' cls dA t em' g' xr => ?_⟩
  · obtain ⟨h1, h2, h3⟩ := back0 ev.em em' g' r'
    exact q _ _ β v H' p h1 h2 h3
  · obtain ⟨h1, h2, _⟩ := back0 (a := .d .non) (v := .non) ev.em em' g' rfl
    refine tk c ds ρ _ _ σ H' cls dA t (ev.up h2 h1) (g.trans h2) ?_
    obtain ⟨e1, xr⟩ := xr
    refine ⟨e1, xr.imp id ?_⟩
    rintro ⟨dd, us, e2, n, hh, hl, rr⟩
    exact ⟨dd, us, e2, fun z => n (av_nest (γ := []) (fun l hl => by simp at hl) z), hh, hl, Reps.less (fun b z => av_nest (γ := []) (fun l hl => by simp at hl) z) rr⟩
theorem spO1 {S : Addr → Prop} {α0 α : Als} {H0 H : Hp} {σ : L2.St} {dsp : DSp} {as : List AV} {vs : List V} {Q : VK} {Wx : WX} {j : Nat} (g : Gr0 α0 α H0 H) (ev : Ev C.W S α ρ M σ H)
    (tk : ∀ c ds ρ M α σ H cls dA, C.T c ds ρ M → Ev C.W S α ρ M σ H → Gr0 α0 α H0 H → XRep C.W (Av S α) H c ds cls dA → Wx cls dA σ H)
    (hu : only1 j as = true) (r : RepsA C.W S α H as vs) (q : PostE C S α H Ψ Q) (h : call1 C ρ j dsp as M Ψ) : spOf C.W 1 dsp vs H Q (fun cls d H' => Wx cls d σ H') := by
  obtain ⟨c, hc, h⟩ := h
  obtain ⟨l0, h1, h2⟩ := paired_get ev.em.rep hc
  have hmem : l0 ∈ α := List.mem_of_getElem? h1
  refine ⟨Av S α, [l0], [c], as.map (ren1 j), _, _, em1 ev.em h1 h2, rfl, repsA1 h1 hu r, h, fun a M' β v H' p em' g' r' => ?_, fun c ds M' β H' cls dA t em' g' xr => ?_⟩
  · obtain ⟨c', r2, e, p⟩ := p
    subst e
    obtain ⟨h1, h2, h3⟩ := back1 ev.em h1 em' g' r'
    exact q _ _ β v H' p h1 h2 h3
  · obtain ⟨c', r2, e, t⟩ := t
    subst e
    obtain ⟨h1, h2, _⟩ := back1 (a := .d .non) (v := .non) ev.em h1 em' g' rfl
    refine tk _ ds ρ _ _ σ H' cls dA t (ev.up h2 h1) (g.trans h2) ?_
    obtain ⟨e1, xr⟩ := xr
    refine ⟨e1, xr.imp id ?_⟩
    rintro ⟨dd, us, e2, n, hh, hl, rr⟩
    have sub : ∀ b, Av S (α ++ β) b → Av (Av S α) ([l0] ++ β) b := fun b z => av_nest (γ := [l0]) (fun l hl => by simp at hl; subst hl; exact hmem) z
    exact ⟨dd, us, e2, fun z => n (sub _ z), hh, hl, Reps.less (fun b z => sub b z) rr⟩
theorem unD_of_allD {as : List AV} {R : List D → Prop} (h : allD as R) : ∃ ds, unD as = some ds ∧ R ds := by
  cases q : unD as with
  | none => unfold allD at h; rw [q] at h; exact h.elim
  | some ds => unfold allD at h; rw [q] at h; exact ⟨ds, rfl, h⟩
/-- f(e, ..), handed nothing of the store -/
theorem we_call {dsp : DSp} {k' : Nat} (ok : Cok C P w K mg base N gs Vi Li k) (i : Nat) (hN : gs[i]? = some x) (F : Fk P w K mg base C.W x ps 0 dsp k') (hk : k' ≤ k)
    (h : WA C (e :: es) ρ M fun as M1 => allD as fun _ => call0 C ρ dsp as M1 Ψ)
    (hdb : (x == ("__debug__" : Str)) = false := by decide) (he : starEach (e :: es) C.X.env = (false, eval e C.X.env) :: starEach es C.X.env := by rfl) (hpl : (backTo pos (starEach es C.X.env)).any (·.1) = false := by rfl) :
    WE C (.Call (.Name x p) (e :: es) [] pos) ρ M Ψ := by
  obtain ⟨f, fd, FO, hm, hkp, hb⟩ := F.ex
  refine ⟨fun S α0 H0 α σ H Q bs g ev q => ?_⟩
  obtain ⟨Wx, tk, ht⟩ := bs.tk
  have FO' : FnOk C.X.prog C.X.w C.X.K C.X.mg C.X.base (L2.CX C.X.prog C.X.w) k' f fd ps (spOf C.W 0 dsp) := by rw [ok.prog, ok.wE, ok.kE, ok.mgE, ok.baseE]; exact FO
  refine uE_of (pe_callS FO' (ok.room.mono hk) (ok.gl i x hN) (by rw [ok.mgE]; exact hm) (by rw [ok.kE]; exact hkp) (by rw [ok.kE]; exact hb) (passAt tk) pa_u hdb he hpl) ?_
  refine h.run S α0 H0 α σ H _ bs g ev fun as M1 β1 vs H1 p1 em1 g1 r1 => ?_
  obtain ⟨ds, hu, hc⟩ := unD_of_allD p1
  exact spO0 (g.trans g1) (ev.up g1 em1) ht hu r1 (thnE q g1) hc
/-- f(e, ..), handed the j-th thing -/
theorem we_call1 {dsp : DSp} {k' : Nat} (j : Nat) (ok : Cok C P w K mg base N gs Vi Li k) (i : Nat) (hN : gs[i]? = some x) (F : Fk P w K mg base C.W x ps 1 dsp k') (hk : k' ≤ k)
    (h : WA C (e :: es) ρ M fun as M1 => only1 j as = true ∧ call1 C ρ j dsp as M1 Ψ)
    (hdb : (x == ("__debug__" : Str)) = false := by decide) (he : starEach (e :: es) C.X.env = (false, eval e C.X.env) :: starEach es C.X.env := by rfl) (hpl : (backTo pos (starEach es C.X.env)).any (·.1) = false := by rfl) :
    WE C (.Call (.Name x p) (e :: es) [] pos) ρ M Ψ := by
  obtain ⟨f, fd, FO, hm, hkp, hb⟩ := F.ex
  refine ⟨fun S α0 H0 α σ H Q bs g ev q => ?_⟩
  obtain ⟨Wx, tk, ht⟩ := bs.tk
  have FO' : FnOk C.X.prog C.X.w C.X.K C.X.mg C.X.base (L2.CX C.X.prog C.X.w) k' f fd ps (spOf C.W 1 dsp) := by rw [ok.prog, ok.wE, ok.kE, ok.mgE, ok.baseE]; exact FO
  refine uE_of (pe_callS FO' (ok.room.mono hk) (ok.gl i x hN) (by rw [ok.mgE]; exact hm) (by rw [ok.kE]; exact hkp) (by rw [ok.kE]; exact hb) (passAt tk) pa_u hdb he hpl) ?_
  refine h.run S α0 H0 α σ H _ bs g ev fun as M1 β1 vs H1 p1 em1 g1 r1 => ?_
  exact spO1 (g.trans g1) (ev.up g1 em1) ht p1.1 r1 (thnE q g1) p1.2

/-! ### a def's body -/
def rho0 (N : List Str) (as : List AV) : Rho := as.map some ++ List.replicate (N.length - as.length) none
theorem ev_start {W : Wd} {S : Addr → Prop} {α : Als} {H : Hp} {as : List AV} {vs : List V} (em : EM W S α M H) (r : RepsA W S α H as vs) : Ev W S α (rho0 N as) M (L2.start N vs) H := by
  have hl := repsA_len r
  refine ⟨em, by unfold rho0 L2.start; simp [hl], fun i a hi => ?_⟩
  unfold rho0 at hi
  unfold L2.start
  have hlt : i < as.length := by
    by_cases hlt : i < as.length
    · exact hlt
    · rw [List.getElem?_append_right (by simpa using hlt), List.getElem?_replicate] at hi
      split at hi <;> cases hi
  rw [List.getElem?_append_left (by simpa using hlt)] at hi
  rw [List.getElem?_append_left (by simpa [hl] using hlt)]
  have go : ∀ {as : List AV} {vs : List V} {i : Nat} {a : AV}, RepsA W S α H as vs → (as.map some)[i]? = some (some a) → ∃ v, (vs.map some)[i]? = some (some v) ∧ RepA W S α H a v := by
    intro as
    induction as with
    | nil => intro vs i a _ h; simp at h
    | cons b as ih =>
      intro vs i a r h
      obtain ⟨v, r2, e, h1, t⟩ := (show ∃ v r, vs = v :: r ∧ RepA W S α H b v ∧ RepsA W S α H as r from r)
      subst e
      cases i with
      | zero => simp at h; subst h; exact ⟨v, rfl, h1⟩
      | succ i => exact ih (i := i) t (by simpa using h)
  exact go r hi
/-- how a def's body is shown -/
theorem fn_D {x qual : Str} {st : Stmt} {f : Addr} {fd : FuncData} {W : Wd} {n0 : Nat} {dsp : DSp} (F : Fun K x qual st f fd) (S : FnScope N ps (defScope st))
    (vis : ∀ (i : Nat) y, i ∈ Vi → N[i]? = some y → (defScope st).names.lookup y = some .local ∨ (defScope st).names.lookup y = some .cell)
    (gl : ∀ (i : Nat) y, gs[i]? = some y → (defScope st).names.lookup y = some .globalImplicit)
    (wk : W.K = K) (hlen : ∀ as M Ψ T, dsp as M Ψ T → as.length = ps.length)
    (body : ∀ (C : Ctx), Cok C P w K mg base N gs Vi Vi k → PassesOwn (model C.X.prog C.X.w) C.X.A C.X.env C.X.xe → C.X.stack = C.X.env :: C.X.outer → C.X.env.frame = some C.X.env.locals → C.W = W → C.n0 = n0 → (∃ f cdv A outer s H E, C.X = cxOf (L2.CX P w) P w K mg base N qual (defScope st) f cdv A outer s H E) → ∀ as M Ψ T, M.length = n0 → C.T = (fun c ds _ M => T c ds (M.take n0)) → dsp as M Ψ T →
      WS C (defBody st) (rho0 N as) M { nx := fun _ M' => Ψ (.d .non) (M'.take n0), rt := Ψ }) :
    FnOk P w K mg base (L2.CX P w) (k + 1) f fd ps (spOf W n0 dsp) := by
  refine F.okX S (fun vs H Q E h => ?_) (fun cdv A outer s H vs Q E hr h => ?_)
  · obtain ⟨S, α, M, as, Ψ, T, em, hl, r, hd, _⟩ := h
    rw [repsA_len r]; exact hlen _ _ _ _ hd
  · obtain ⟨S', α, M, as, Ψ, T, em, hl, r, hd, hq, hx⟩ := h
    let X := cxOf (L2.CX P w) P w K mg base N qual (defScope st) f cdv A outer s H E
    have tk : Takes X (fun c d _ H' => E c d H') := takes_of rfl rfl rfl rfl
    let C : Ctx := ⟨X, W, n0, fun c ds _ M => T c ds (M.take n0)⟩
    have ok : Cok C P w K mg base N gs Vi Vi k :=
      ⟨rfl, rfl, rfl, rfl, rfl, wk, rfl, S.nd, fun i y hi e => by rcases vis i y hi e with z | z; exact .inl z; exact .inr (.inl z), fun i y hi e => ⟨vis i y hi e, .inl rfl⟩, fun i y e => gl i y e, rfl, hr⟩
    refine ⟨uSs X (defBody st), pss_u, ?_⟩
    have bd := body C ok (passes_of rfl) rfl rfl rfl rfl ⟨_, _, _, _, _, _, _, rfl⟩ as M Ψ T hl rfl hd
    have e0 : α.length = n0 := by rw [← em.len]; exact hl
    refine bd.run S' α H α (L2.start N vs) H _ ⟨e0, em.trA, _, tk, fun c ds ρ M1 α1 σ1 H1 cls dA t ev g xr => ?_⟩ Gr0.refl (ev_start em r) ⟨fun ρ' M' α' σ' H' p ev' g' => ?_, fun a M' α' v H' p em' g' r' => ?_, fun _ _ _ _ _ z => z.elim, fun _ _ _ _ _ z => z.elim⟩
    · -- an exception leaves
      obtain ⟨β, eβ, gβ⟩ := g
      have e2 : α1.take n0 = α := by rw [eβ, ← e0]; simp
      have em2 := ev.em.take n0
      rw [e2] at em2
      refine hx c ds _ [] H1 cls dA t (by rw [app_nil]; exact em2) ⟨gβ.kp, gβ.st, fun l hl => by simp at hl⟩ ?_
      obtain ⟨e1, xr⟩ := xr
      rw [app_nil]
      refine ⟨e1, xr.imp id ?_⟩
      rintro ⟨dd, us, e2, n, hh, hl, rr⟩
      have sub : ∀ b, Av S' α b → Av S' α1 b := fun b z => by rw [eβ]; exact av_mono z
      exact ⟨dd, us, e2, fun z => n (sub _ z), hh, hl, Reps.less (fun b z => sub b z) rr⟩
    · obtain ⟨β, eβ, gβ⟩ := g'
      have e2 : α'.take n0 = α := by rw [eβ, ← e0]; simp
      have em2 := ev'.em.take n0
      rw [e2] at em2
      exact hq (.d .non) _ [] .non H' p (by rw [app_nil]; exact em2) ⟨gβ.kp, gβ.st, fun l hl => by simp at hl⟩ rfl
    · obtain ⟨β, eβ, gβ⟩ := g'
      subst eβ
      exact hq a M' β v H' p em' gβ r'
end
end Dl

/-! DL6: assignments, loops, fields, instances. -/
namespace Dl
open PySem L2

section
variable {P : Program} {w : World} {K : PySem.W.Frag} {mg : Str → Option Value} {base : Heap} {N gs ps : List Str} {Vi Li : List Nat} {k : Nat}
variable {C : Ctx} {e e2 a b c o : Expr} {es : List Expr} {st : Stmt} {sts : List Stmt} {ρ : Rho} {M : Mm} {Φ : Kn} {Ψ : AV → Mm → Prop} {x y : Str} {pos p pos' : Pos}

theorem Ev.set {W : Wd} {S : Addr → Prop} {α : Als} {σ : L2.St} {H : Hp} {v : AV} {u : V} (ev : Ev W S α ρ M σ H) (i : Nat) (r : RepA W S α H v u) : Ev W S α (ρ.set i (some v)) M (σ.set i (some u)) H := by
  refine ⟨ev.em, by simp [ev.len], fun j a hj => ?_⟩
  by_cases h : i = j
  · subst h
    by_cases hl : i < ρ.length
    · rw [List.getElem?_set_self hl] at hj; cases hj
      exact ⟨u, by rw [List.getElem?_set_self (by rw [ev.len]; exact hl)], r⟩
    · rw [List.getElem?_eq_none (by simpa using hl)] at hj; cases hj
  · rw [List.getElem?_set_ne h] at hj
    obtain ⟨v', h1, h2⟩ := ev.sl j a hj
    exact ⟨v', by rw [List.getElem?_set_ne h]; exact h1, h2⟩
/-- what is wanted, of names and store in a normal form -/
def Nrm (ρ : Rho) (M : Mm) (R : Rho → Mm → Prop) : Prop := ∃ ρ' M', ρ = ρ' ∧ M = M' ∧ R ρ' M'
theorem Nrm.out {R : Rho → Mm → Prop} (h : Nrm ρ M R) : R ρ M := by
  obtain ⟨_, _, rfl, rfl, h⟩ := h; exact h
theorem w1_set (ok : Cok C P w K mg base N gs Vi Li k) (i : Nat) (hN : N[i]? = some x) (hL : i ∈ Li) (h : WE C e ρ M fun v M' => Nrm (ρ.set i (some v)) M' Φ.nx)
    (hs : swapsWith e (some (.Name x pos')) pos.line C.X.env = pure false := by rfl) : W1 C (.Assign [.Name x pos'] e pos) ρ M Φ := by
  obtain ⟨l1, l2⟩ := ok.loc i x hL hN
  refine ⟨fun S α0 H0 α σ H D bs g ev f => uS_of (ps_set (i := i) (by rw [ok.nE]; exact ok.nd) (by rw [ok.nE]; exact hN) l1 pe_u hs l2) ?_⟩
  show uE C.X e σ H fun u H1 => D.nx (σ.set i (some u)) H1
  refine h.run S α0 H0 α σ H _ bs g ev fun v M1 β u H1 p1 em1 g1 r1 => ?_
  exact f.nx _ M1 (α ++ β) _ H1 p1.out ((ev.up g1 em1).set i r1) (g.trans g1)
/-- a, b = x, y -/
theorem w1_par (ok : Cok C P w K mg base N gs Vi Li k) (i j : Nat) {px py pt pt2 : Pos} {kt k2 : Nat} (hi : N[i]? = some x) (hj : N[j]? = some y) (hij : i ≠ j)
    (hx : C.X.env.scope.names.lookup x = some .local) (hy : C.X.env.scope.names.lookup y = some .local)
    (h : WA C [a, b] ρ M fun as M' => ∃ u v, as = [u, v] ∧ Nrm ((ρ.set i (some u)).set j (some v)) M' Φ.nx)
    (hw : swappedStores [.Tuple [.Name x px, .Name y py] kt pt] (.Tuple [a, b] k2 pt2) C.X.env = pure (some [x, y]))
    (hs : swapsWithSole [.Tuple [.Name x px, .Name y py] kt pt] (.Tuple [a, b] k2 pt2) pos.line C.X.env = pure false := by rfl) :
    W1 C (.Assign [.Tuple [.Name x px, .Name y py] kt pt] (.Tuple [a, b] k2 pt2) pos) ρ M Φ := by
  refine ⟨fun S α0 H0 α σ H D bs g ev f => uS_of (ps_par ok.calm (by rw [ok.nE]; exact ok.nd) (by rw [ok.nE]; exact hi) (by rw [ok.nE]; exact hj) hij hx hy pa_u hw hs) ?_⟩
  refine h.run S α0 H0 α σ H _ bs g ev fun as M1 β vs H1 p1 em1 g1 r1 => ?_
  obtain ⟨u, v, e, p1⟩ := p1
  subst e
  obtain ⟨u', v', e, h1, h2⟩ := reps2 r1
  exact ⟨u', v', e, f.nx _ M1 (α ++ β) _ H1 p1.out (((ev.up g1 em1).set i h1).set j h2) (g.trans g1)⟩

/-! ### targets -/
def uGs (X : Cx) (ts : List Expr) : TGs := fun vs σ H Q => ∀ pins s us, Inv X pins σ H s → Vals vs us → wpAny (model X.prog X.w) X.A (assignInOrder ((assignEach ts X.env).map (·.2)) us) (fun _ s' => ∃ σ' H', Inv X pins σ' H' s' ∧ Q σ' H') X.xe s
theorem pgs_u {X : Cx} {ts : List Expr} : PGs X ts (uGs X ts) := ⟨fun pins s _ _ _ us _ I r h => h pins s us I r⟩
theorem uGs_of {X : Cx} {ts : List Expr} {t : TGs} {vs : List V} {σ : L2.St} {H : Hp} {Q : L2.St → Hp → Prop} (p : PGs X ts t) (h : t vs σ H Q) : uGs X ts vs σ H Q := fun pins s us I r => p.run pins s σ H vs us Q I r h
abbrev PostG (C : Ctx) (S : Addr → Prop) (α : Als) (H : Hp) (Ψ : Rho → Mm → Prop) (Q : L2.St → Hp → Prop) : Prop :=
  ∀ ρ' M' β σ' H', Ψ ρ' M' → Ev C.W S (α ++ β) ρ' M' σ' H' → Gr α β H H' → Q σ' H'
theorem thnG {S : Addr → Prop} {α β : Als} {H H1 : Hp} {Ψ : Rho → Mm → Prop} {Q : L2.St → Hp → Prop} (q : PostG C S α H Ψ Q) (g : Gr α β H H1) : PostG C S (α ++ β) H1 Ψ Q := fun ρ' M' γ σ' H' p ev g2 =>
  q ρ' M' (β ++ γ) σ' H' p (by rw [← List.append_assoc]; exact ev) (g.trans g2)
structure WGs (C : Ctx) (ts : List Expr) (ds : List D) (ρ : Rho) (M : Mm) (Ψ : Rho → Mm → Prop) : Prop where
  run : ∀ S α σ H (Q : L2.St → Hp → Prop) vs, Ev C.W S α ρ M σ H → Reps C.W (Av S α) H ds vs → PostG C S α H Ψ Q → uGs C.X ts vs σ H Q
theorem wg_name {v : AV} {Ψ : Rho → Mm → Prop} (ok : Cok C P w K mg base N gs Vi Li k) (i : Nat) (hN : N[i]? = some x) (hL : i ∈ Li) (h : Nrm (ρ.set i (some v)) M Ψ) : WG C (.Name x pos) v ρ M Ψ := by
  obtain ⟨l1, l2⟩ := ok.loc i x hL hN
  refine ⟨fun S α σ H Q u ev r q => uG_of (pg_name (i := i) (by rw [ok.nE]; exact ok.nd) (by rw [ok.nE]; exact hN) l1 l2) ?_⟩
  exact q _ M [] _ H h.out (by rw [app_nil]; exact ev.set i r) Gr.refl
theorem wgs_nil {Ψ : Rho → Mm → Prop} (h : Ψ ρ M) : WGs C [] [] ρ M Ψ :=
  ⟨fun S α σ H Q vs ev r q => uGs_of pgs_nil ⟨r, q ρ M [] σ H h (by rw [app_nil]; exact ev) Gr.refl⟩⟩
theorem wgs_cons {d : D} {ds : List D} {Ψ : Rho → Mm → Prop} (h : WG C e (.d d) ρ M fun ρ1 M1 => WGs C es ds ρ1 M1 Ψ)
    (hs : (assignEach (e :: es) C.X.env).map (·.2) = assign e C.X.env :: (assignEach es C.X.env).map (·.2) := by rfl) : WGs C (e :: es) (d :: ds) ρ M Ψ := by
  refine ⟨fun S α σ H Q vs ev r q => ?_⟩
  obtain ⟨v, r2, e1, h1, h2⟩ := (show ∃ v r, vs = v :: r ∧ Rep C.W (Av S α) H d v ∧ Reps C.W (Av S α) H ds r from r)
  refine uGs_of (pgs_cons pg_u pgs_u hs) ⟨v, r2, e1, ?_⟩
  refine h.run S α σ H _ v ev h1 fun ρ1 M1 β σ1 H1 p1 ev1 g1 => ?_
  exact p1.run S (α ++ β) σ1 H1 Q r2 ev1 (h2.up g1) (thnG q g1)
theorem wg_tup {ds : List D} {n : Nat} {Ψ : Rho → Mm → Prop} (ok : Cok C P w K mg base N gs Vi Li k) (h : WGs C es ds ρ M Ψ)
    (hn : (assignEach es C.X.env).length = ds.length := by rfl) (hst : (assignEach es C.X.env).findIdx? (·.1) = none := by rfl) : WG C (.Tuple es n pos) (.d (.tup ds)) ρ M Ψ := by
  refine ⟨fun S α σ H Q v ev r q => uG_of (pg_tup (n := ds.length) ok.calm pgs_u hn hst) ?_⟩
  obtain ⟨a, vs, e, t, rr⟩ := (show ∃ a vs, v = .ref a ∧ TSq C.W (Av S α) H a vs ∧ Reps C.W (Av S α) H ds vs from r)
  exact ⟨a, vs, e, ok.wk ▸ t.sq, reps_len rr, h.run S α σ H Q vs ev rr q⟩
theorem wg_tw {ds : List D} {n : Nat} {Ψ : Rho → Mm → Prop} (ok : Cok C P w K mg base N gs Vi Li k) (h : WGs C es ds ρ M Ψ)
    (hn : (assignEach es C.X.env).length = ds.length := by rfl) (hst : (assignEach es C.X.env).findIdx? (·.1) = none := by rfl) : WG C (.Tuple es n pos) (.d (.tw ds)) ρ M Ψ := by
  refine ⟨fun S α σ H Q v ev r q => uG_of (pg_tup (n := ds.length) ok.calm pgs_u hn hst) ?_⟩
  obtain ⟨a, vs, e, t, rr⟩ := (show ∃ a vs, v = .ref a ∧ TSw C.W (Av S α) H a vs ∧ Reps C.W (Av S α) H ds vs from r)
  exact ⟨a, vs, e, ok.wk ▸ t.sq, reps_len rr, h.run S α σ H Q vs ev rr q⟩
/-- target = value -/
theorem w1_asg {tg : Expr} (h : WE C e ρ M fun v M' => WG C tg v ρ M' Φ.nx) (hs : swapsWithSole [tg] e pos.line C.X.env = pure false := by rfl) (hw : swappedStores [tg] e C.X.env = pure none := by rfl)
    (h1 : (assignEach [tg] C.X.env).map (·.2) = [assign tg C.X.env] := by rfl) : W1 C (.Assign [tg] e pos) ρ M Φ := by
  refine ⟨fun S α0 H0 α σ H D bs g ev f => uS_of (ps_asg pe_u pg_u hs hw h1) ?_⟩
  show uE C.X e σ H fun u H1 => uG C.X tg u σ H1 D.nx
  refine h.run S α0 H0 α σ H _ bs g ev fun v M1 β u H1 p1 em1 g1 r1 => ?_
  refine p1.run S (α ++ β) σ H1 _ u (ev.up g1 em1) r1 fun ρ' M' γ σ' H' p' ev' g' => ?_
  exact f.nx ρ' M' (α ++ β ++ γ) σ' H' p' ev' ((g.trans g1).trans g')

/-! ### while -/
theorem w1_while {body : List Stmt} (own : PassesOwn (model C.X.prog C.X.w) C.X.A C.X.env C.X.xe) (Iv : Nat → Rho → Mm → Prop) (m0 : Nat) (h0 : Iv m0 ρ M)
    (h : ∀ m ρ' M', Iv m ρ' M' → WT C c ρ' M' fun t M2 => (t = true → WS C body ρ' M2 { nx := fun ρ3 M3 => ∃ m', m' < m ∧ Iv m' ρ3 M3, ct := fun ρ3 M3 => ∃ m', m' < m ∧ Iv m' ρ3 M3, bk := Φ.nx, rt := Φ.rt }) ∧ (t = false → Φ.nx ρ' M2)) :
    W1 C (.While c body [] pos) ρ M Φ := by
  refine ⟨fun S α0 H0 α σ H D bs g ev f => uS_of (ps_while own pt_u pss_u) ?_⟩
  refine ⟨fun m σ H => ∃ ρ M α, Iv m ρ M ∧ Ev C.W S α ρ M σ H ∧ Gr0 α0 α H0 H, ⟨m0, ρ, M, α, h0, ev, g⟩, ?_⟩
  rintro m σ1 H1 ⟨ρ1, M1, α1, i1, ev1, g1⟩
  refine (h m ρ1 M1 i1).run S α0 H0 α1 σ1 H1 _ bs g1 ev1 fun t M2 β H2 p2 em2 g2 => ?_
  cases t with
  | true =>
    rw [if_pos rfl]
    refine ⟨fun σ' H' => ∃ m', m' < m ∧ ∃ ρ M α, Iv m' ρ M ∧ Ev C.W S α ρ M σ' H' ∧ Gr0 α0 α H0 H', fun σ' H' z => z, ?_⟩
    refine (p2.1 rfl).run S α0 H0 _ σ1 H2 _ bs (g1.trans g2) (ev1.up g2 em2) ⟨fun ρ' M' α' σ' H' ⟨m', lt, z⟩ ev' g' => ⟨m', lt, ρ', M', α', z, ev', g'⟩, f.rt, f.nx, fun ρ' M' α' σ' H' ⟨m', lt, z⟩ ev' g' => ⟨m', lt, ρ', M', α', z, ev', g'⟩⟩
  | false =>
    rw [if_neg Bool.false_ne_true]
    exact f.nx ρ1 M2 _ σ1 H2 (p2.2 rfl) (ev1.up g2 em2) (g1.trans g2)

/-! ### for -/
/-- inside a loop that begins with n things -/
abbrev Ctx.at (C : Ctx) (n : Nat) : Ctx := { C with n0 := n }
theorem Cok.at (ok : Cok C P w K mg base N gs Vi Li k) (n : Nat) : Cok (C.at n) P w K mg base N gs Vi Li k :=
  ⟨ok.prog, ok.wE, ok.kE, ok.mgE, ok.baseE, ok.WK, ok.nE, ok.nd, ok.vis, ok.loc, ok.gl, ok.calm, ok.room⟩
theorem Bs.at {S : Addr → Prop} {α0 α : Als} {H0 H : Hp} (bs : Bs C S α0 H0) (g : Gr0 α0 α H0 H) (em : EM C.W S α M H) : Bs (C.at M.length) S α H := by
  obtain ⟨Wx, tk, ht⟩ := bs.tk
  refine ⟨em.len.symm, em.trA, Wx, tk, fun c ds ρ M1 α1 σ H1 cls dA t ev g1 xr => ht c ds ρ M1 α1 σ H1 cls dA t ev ?_ xr⟩
  obtain ⟨β, e, g1⟩ := g1
  subst e
  exact g.trans g1
theorem Gr0.join {α0 α α' : Als} {H0 H H' : Hp} (g : Gr0 α0 α H0 H) (g1 : Gr0 α α' H H') : Gr0 α0 α' H0 H' := by
  obtain ⟨β, e, g1⟩ := g1
  subst e
  exact g.trans g1
/-- what follows a loop, seen from within -/
abbrev Kn.out (Φ : Kn) (n0 : Nat) (Iv : Rho → Mm → Prop) : Kn := { nx := Iv, ct := Iv, bk := Φ.nx, rt := fun a M => Clo n0 a M Φ.rt }
/-- the turns of an iterator: it yields the items ds -/
structure Yl (C : Ctx) (S : Addr → Prop) (α : Als) (H : Hp) (J : It) (n : Nat) (ds : Nat → Option D) (G : Als → Hp → Prop) : Prop where
  go : ∀ i α' H', i < n → G α' H' → J.go i H'
  stop : ∀ α' H', G α' H' → J.stop n H'
  yld : ∀ i α' H' x H'' M', i < n → G α' H' → Gr0 α α' H H' → EM C.W S α' M' H' → J.yld i H' x H'' → Same H' H'' ∧ ∃ d, ds i = some d ∧ Rep C.W (Av S α') H'' d x
theorem for_core {S : Addr → Prop} {α0 α : Als} {H0 H : Hp} {σ : L2.St} {D' : Ends} {tg : Expr} {body : List Stmt} {J : It} {n : Nat} {ds : Nat → Option D} {G : Als → Hp → Prop}
    (bs : Bs C S α0 H0) (g : Gr0 α0 α H0 H) (ev : Ev C.W S α ρ M σ H) (f : Fin C S α0 H0 Φ D') (Y : Yl C S α H J n ds G) (Iv : Nat → Rho → Mm → Prop) (h0 : Iv 0 ρ M)
    (hG : ∀ i ρ' M' α' σ' H', i ≤ n → Iv i ρ' M' → Ev C.W S α' ρ' M' σ' H' → Gr0 α α' H H' → G α' H')
    (hs : ∀ i d ρ' M', i < n → ds i = some d → Iv i ρ' M' → WG C tg (.d d) ρ' M' fun ρ2 M2 => WS (C.at M.length) body ρ2 M2 (Φ.out C.n0 (Iv (i + 1))))
    (hd : ∀ ρ' M', Iv n ρ' M' → Φ.nx ρ' M') :
    ∃ W : Nat → Nat → L2.St → Hp → Prop, (∃ m, W 0 m σ H) ∧ ∀ i m σ H, W i m σ H →
      (J.stop i H ∧ D'.nx σ H) ∨ (J.go i H ∧ ∃ N : L2.St → Hp → Prop, (∀ σ' H', N σ' H' → ∃ m', m' < m ∧ W (i + 1) m' σ' H') ∧ ∀ x H', J.yld i H x H' → uG C.X tg x σ H' fun σ2 H2 => uSs C.X body { D' with nx := N, ct := N, bk := D'.nx } σ2 H2) := by
  refine ⟨fun i m σ' H' => m = n - i ∧ i ≤ n ∧ ∃ ρ M α', Iv i ρ M ∧ Ev C.W S α' ρ M σ' H' ∧ Gr0 α α' H H', ⟨n, by simp, Nat.zero_le _, ρ, M, α, h0, ev, Gr0.refl⟩, ?_⟩
  rintro i m σ1 H1 ⟨rfl, hi, ρ1, M1, α1, i1, ev1, g1⟩
  have G1 := hG i ρ1 M1 α1 σ1 H1 hi i1 ev1 g1
  by_cases hlt : i < n
  · refine .inr ⟨Y.go i α1 H1 hlt G1, fun σ' H' => ∃ ρ M α', Iv (i + 1) ρ M ∧ Ev C.W S α' ρ M σ' H' ∧ Gr0 α α' H H', fun σ' H' ⟨ρ', M', α', z⟩ => ⟨n - (i + 1), by omega, rfl, hlt, ρ', M', α', z⟩, fun x H2 y => ?_⟩
    obtain ⟨sm, d, hd', r⟩ := Y.yld i α1 H1 x H2 M1 hlt G1 g1 ev1.em y
    have em2 := ev1.em.on' sm
    have g2 : Gr α1 [] H1 H2 := Gr.same sm
    have ev2 : Ev C.W S α1 ρ1 M1 σ1 H2 := by have z := ev1.up g2 em2; rw [app_nil] at z; exact z
    have gg : Gr0 α α1 H H2 := by have z := g1.trans g2; rw [app_nil] at z; exact z
    refine (hs i d ρ1 M1 hlt hd' i1).run S α1 σ1 H2 _ x ev2 r fun ρ3 M3 β σ3 H3 p3 ev3 g3 => ?_
    refine p3.run S α H (α1 ++ β) σ3 H3 _ (bs.at g ev.em) (gg.trans g3) ev3 ⟨fun ρ' M' α' σ' H' z ev' g' => ⟨ρ', M', α', z, ev', g'⟩, fun a M' α' v H' z em' g' r' => ?_, fun ρ' M' α' σ' H' z ev' g' => f.nx ρ' M' α' σ' H' z ev' (g.join g'), fun ρ' M' α' σ' H' z ev' g' => ⟨ρ', M', α', z, ev', g'⟩⟩
    obtain ⟨a', M2, α2, z1, z2, z3, z4⟩ := clo_ok bs (g.join g') em' r' z
    exact f.rt a' M2 α2 v H' z1 z2 z3 z4
  · have e : i = n := by omega
    subst e
    exact .inl ⟨Y.stop α1 H1 G1, f.nx ρ1 M1 α1 σ1 H1 (hd ρ1 M1 i1) ev1 (g.join g1)⟩

/-- for x in range(n), range(a, b) -/
theorem yl_range {S : Addr → Prop} {α : Als} {H : Hp} {lo : Int} {n : Nat} : Yl C S α H (Itr lo n) n (fun i => some (.int (lo + i))) fun _ _ => True where
  go := fun i α' H' hi _ => hi
  stop := fun α' H' _ => Nat.le_refl _
  yld := fun i α' H' x H'' M' hi _ _ _ y => by
    obtain ⟨e, e2⟩ := (show H'' = H' ∧ x = .int (lo + i) from y)
    subst e
    exact ⟨Same.refl _, _, rfl, e2⟩
theorem w1_forR {tg : Expr} {body : List Stmt} {ix : Nat} (ok : Cok C P w K mg base N gs Vi Li k) (hN : gs[ix]? = some ("range" : Str)) (hm : mg "range" = none) (own : PassesOwn (model C.X.prog C.X.w) C.X.A C.X.env C.X.xe)
    (h : WE C a ρ M fun v M1 => ∃ n : Int, v = .d (.int n) ∧ (-1000000000 ≤ n ∧ n ≤ 1000000000) ∧ ∃ Iv : Nat → Rho → Mm → Prop, Iv 0 ρ M1 ∧
      (∀ (i : Nat) ρ' M', i < n.toNat → Iv i ρ' M' → WG C tg (.d (.int i)) ρ' M' fun ρ2 M2 => WS (C.at M1.length) body ρ2 M2 (Φ.out C.n0 (Iv (i + 1)))) ∧ ∀ ρ' M', Iv n.toNat ρ' M' → Φ.nx ρ' M')
    (hs : starEach [a] C.X.env = [(false, eval a C.X.env)] := by rfl) (hs1 : starEach [a] C.X.env = (false, eval a C.X.env) :: starEach [] C.X.env := by rfl) (hf : ∀ x, foldedSetIterable (.Call (.Name "range" p) [a] [] pos') C.X.env x = pure x := by intro _; rfl) :
    W1 C (.For tg (.Call (.Name "range" p) [a] [] pos') body [] pos) ρ M Φ := by
  refine ⟨fun S α0 H0 α σ H D bs g ev f => uS_of (ps_for own ok.calm (pi_range1 (ok.gl ix _ hN) (by rw [ok.mgE]; exact hm) (pa_cons pe_u pa_nil hs1) hs) pg_u pss_u hf) ?_⟩
  refine h.run S α0 H0 α σ H _ bs g ev fun v M1 β u H1 p1 em1 g1 r1 => ?_
  obtain ⟨n, e, ⟨hn1, hn2⟩, Iv, h0, h1, h2⟩ := p1
  subst e
  refine ⟨n, by rw [show u = .int n from r1], by omega, by omega, ?_⟩
  refine for_core bs (g.trans g1) (ev.up g1 em1) f (yl_range (lo := 0) (n := n.toNat)) Iv h0 (fun _ _ _ _ _ _ _ _ _ _ => trivial) (fun i d ρ' M' hi e hI => ?_) h2
  cases e
  rw [Int.zero_add]
  exact h1 i ρ' M' hi hI
theorem w1_forR2 {tg : Expr} {body : List Stmt} {ix : Nat} (ok : Cok C P w K mg base N gs Vi Li k) (hN : gs[ix]? = some ("range" : Str)) (hm : mg "range" = none) (own : PassesOwn (model C.X.prog C.X.w) C.X.A C.X.env C.X.xe)
    (h : WE C a ρ M fun v M1 => WE C b ρ M1 fun v2 M2 => ∃ l n : Int, v = .d (.int l) ∧ v2 = .d (.int n) ∧ (-1000000000 ≤ l ∧ l ≤ 1000000000 ∧ -1000000000 ≤ n ∧ n ≤ 1000000000) ∧ ∃ Iv : Nat → Rho → Mm → Prop, Iv 0 ρ M2 ∧
      (∀ (i : Nat) ρ' M', i < (n - l).toNat → Iv i ρ' M' → WG C tg (.d (.int (l + i))) ρ' M' fun ρ2 M3 => WS (C.at M2.length) body ρ2 M3 (Φ.out C.n0 (Iv (i + 1)))) ∧ ∀ ρ' M', Iv (n - l).toNat ρ' M' → Φ.nx ρ' M')
    (hs : starEach [a, b] C.X.env = [(false, eval a C.X.env), (false, eval b C.X.env)] := by rfl) (hs2 : starEach [b] C.X.env = [(false, eval b C.X.env)] := by rfl)
    (hs3 : starEach [a, b] C.X.env = (false, eval a C.X.env) :: starEach [b] C.X.env := by rfl) (hs4 : starEach [b] C.X.env = (false, eval b C.X.env) :: starEach [] C.X.env := by rfl) (hf : ∀ x, foldedSetIterable (.Call (.Name "range" p) [a, b] [] pos') C.X.env x = pure x := by intro _; rfl) :
    W1 C (.For tg (.Call (.Name "range" p) [a, b] [] pos') body [] pos) ρ M Φ := by
  refine ⟨fun S α0 H0 α σ H D bs g ev f => uS_of (ps_for own ok.calm (pi_range2 (ok.gl ix _ hN) (by rw [ok.mgE]; exact hm) (pa_cons pe_u (pa_cons pe_u pa_nil hs4) hs3) hs hs2) pg_u pss_u hf) ?_⟩
  refine h.run S α0 H0 α σ H _ bs g ev fun v M1 β u H1 p1 em1 g1 r1 => ?_
  refine p1.run S α0 H0 (α ++ β) σ H1 _ bs (g.trans g1) (ev.up g1 em1) fun v2 M2 β2 u2 H2 p2 em2 g2 r2 => ?_
  obtain ⟨l, n, e, e2, ⟨hl1, hl2, hn1, hn2⟩, Iv, h0, h1, h2⟩ := p2
  subst e; subst e2
  refine ⟨l, n, by rw [show u = .int l from r1, show u2 = .int n from r2], by omega, ?_⟩
  refine for_core bs ((g.trans g1).trans g2) ((ev.up g1 em1).up g2 em2) f (yl_range (lo := l) (n := (n - l).toNat)) Iv h0 (fun _ _ _ _ _ _ _ _ _ _ => trivial) (fun i d ρ' M' hi e hI => ?_) h2
  cases e
  exact h1 i ρ' M' hi hI

/-! ### for over a list or tuple -/
/-- how the items of v can be walked from now on: v is a value, or the loop leaves the thing as it is -/
theorem yl_list {S : Addr → Prop} {α : Als} {H : Hp} {p : Addr} {vs : List V} {ds : List D} (wk : C.W.K = C.X.K) (rr : Reps C.W (Av S α) H ds vs) : Yl C S α H (Itl C.X.K p) ds.length (fun i => ds[i]?) fun _ H' => SqL C.X.K H' p vs := by
  have hl := reps_len rr
  refine ⟨fun i α' H' hi q => ⟨vs, vs[i]'(by omega), q, by simp [hl, hi]⟩, fun α' H' q => ⟨vs, q, by omega⟩, fun i α' H' x H'' M' hi q g em y => ?_⟩
  obtain ⟨e, y⟩ := (show H'' = H' ∧ ∀ xs, SqL C.X.K H' p xs → xs[i]? = some x from y)
  subst e
  obtain ⟨d, h1, h2⟩ := reps_get' rr (y vs q)
  refine ⟨Same.refl _, d, h1, ?_⟩
  obtain ⟨β, e, g⟩ := g
  subst e
  exact h2.up g
theorem yl_tup {S : Addr → Prop} {α : Als} {H : Hp} {p : Addr} {vs : List V} {ds : List D} (wk : C.W.K = C.X.K) (rr : Reps C.W (Av S α) H ds vs) : Yl C S α H (Itt C.X.K p) ds.length (fun i => ds[i]?) fun _ H' => SqT C.X.K H' p vs := by
  have hl := reps_len rr
  refine ⟨fun i α' H' hi q => ⟨vs, vs[i]'(by omega), q, by simp [hl, hi]⟩, fun α' H' q => ⟨vs, q, by omega⟩, fun i α' H' x H'' M' hi q g em y => ?_⟩
  obtain ⟨e, y⟩ := (show H'' = H' ∧ ∀ xs, SqT C.X.K H' p xs → xs[i]? = some x from y)
  subst e
  obtain ⟨d, h1, h2⟩ := reps_get' rr (y vs q)
  refine ⟨Same.refl _, d, h1, ?_⟩
  obtain ⟨β, e, g⟩ := g
  subst e
  exact h2.up g
theorem LSq.on {S : Addr → Prop} {α α' : Als} {H H' : Hp} {p : Addr} {vs : List V} (h : LSq C.W (Av S α) H p vs) (g : Gr0 α α' H H') : SqL C.W.K H' p vs := by
  obtain ⟨β, e, g⟩ := g
  exact (LSq.tr (S' := Av S α) h (fun b z => .inl z) fun b o n e => g.kp b o (fun l hl z => n (.inr ⟨l, hl, z⟩)) e).sq
theorem TSq.on {S : Addr → Prop} {α α' : Als} {H H' : Hp} {p : Addr} {vs : List V} (h : TSq C.W (Av S α) H p vs) (g : Gr0 α α' H H') : SqT C.W.K H' p vs := by
  obtain ⟨β, e, g⟩ := g
  exact (TSq.tr (S' := Av S α) h (fun b z => .inl z) fun b o n e => g.kp b o (fun l hl z => n (.inr ⟨l, hl, z⟩)) e).sq
/-- for x in a list: a value -/
theorem w1_forL {tg iter : Expr} {body : List Stmt} (ok : Cok C P w K mg base N gs Vi Li k) (own : PassesOwn (model C.X.prog C.X.w) C.X.A C.X.env C.X.xe)
    (h : WE C iter ρ M fun v M1 => ∃ ds, v = .d (.lst ds) ∧ ∃ Iv : Nat → Rho → Mm → Prop, Iv 0 ρ M1 ∧
      (∀ (i : Nat) d ρ' M', i < ds.length → ds[i]? = some d → Iv i ρ' M' → WG C tg (.d d) ρ' M' fun ρ2 M2 => WS (C.at M1.length) body ρ2 M2 (Φ.out C.n0 (Iv (i + 1)))) ∧ ∀ ρ' M', Iv ds.length ρ' M' → Φ.nx ρ' M')
    (hf : ∀ x, foldedSetIterable iter C.X.env x = pure x := by intro _; rfl) : W1 C (.For tg iter body [] pos) ρ M Φ := by
  refine ⟨fun S α0 H0 α σ H D bs g ev f => uS_of (ps_for own ok.calm (pi_list pe_u) pg_u pss_u hf) ?_⟩
  refine h.run S α0 H0 α σ H _ bs g ev fun v M1 β u H1 p1 em1 g1 r1 => ?_
  obtain ⟨ds, e, Iv, h0, h1, h2⟩ := p1
  subst e
  obtain ⟨a, vs, e, t, rr⟩ := (show ∃ a vs, u = .ref a ∧ LSq C.W (Av S (α ++ β)) H1 a vs ∧ Reps C.W (Av S (α ++ β)) H1 ds vs from r1)
  refine ⟨a, e, ⟨vs, ok.wk ▸ t.sq⟩, ?_⟩
  exact for_core bs (g.trans g1) (ev.up g1 em1) f (yl_list ok.wk rr) Iv h0 (fun i ρ' M' α' σ' H' _ _ _ gg => ok.wk ▸ t.on gg) h1 h2
theorem w1_forT {tg iter : Expr} {body : List Stmt} (ok : Cok C P w K mg base N gs Vi Li k) (own : PassesOwn (model C.X.prog C.X.w) C.X.A C.X.env C.X.xe)
    (h : WE C iter ρ M fun v M1 => ∃ ds, v = .d (.tup ds) ∧ ∃ Iv : Nat → Rho → Mm → Prop, Iv 0 ρ M1 ∧
      (∀ (i : Nat) d ρ' M', i < ds.length → ds[i]? = some d → Iv i ρ' M' → WG C tg (.d d) ρ' M' fun ρ2 M2 => WS (C.at M1.length) body ρ2 M2 (Φ.out C.n0 (Iv (i + 1)))) ∧ ∀ ρ' M', Iv ds.length ρ' M' → Φ.nx ρ' M')
    (hf : ∀ x, foldedSetIterable iter C.X.env x = pure x := by intro _; rfl) : W1 C (.For tg iter body [] pos) ρ M Φ := by
  refine ⟨fun S α0 H0 α σ H D bs g ev f => uS_of (ps_for own ok.calm (pi_tup pe_u) pg_u pss_u hf) ?_⟩
  refine h.run S α0 H0 α σ H _ bs g ev fun v M1 β u H1 p1 em1 g1 r1 => ?_
  obtain ⟨ds, e, Iv, h0, h1, h2⟩ := p1
  subst e
  obtain ⟨a, vs, e, t, rr⟩ := (show ∃ a vs, u = .ref a ∧ TSq C.W (Av S (α ++ β)) H1 a vs ∧ Reps C.W (Av S (α ++ β)) H1 ds vs from r1)
  refine ⟨a, e, ⟨vs, ok.wk ▸ t.sq⟩, ?_⟩
  exact for_core bs (g.trans g1) (ev.up g1 em1) f (yl_tup ok.wk rr) Iv h0 (fun i ρ' M' α' σ' H' _ _ _ gg => ok.wk ▸ t.on gg) h1 h2
/-- .. a list of the store that the body leaves as it is -/
theorem w1_forM {tg iter : Expr} {body : List Stmt} (ok : Cok C P w K mg base N gs Vi Li k) (own : PassesOwn (model C.X.prog C.X.w) C.X.A C.X.env C.X.xe)
    (h : WE C iter ρ M fun v M1 => ∃ j ds, v = .m j ∧ M1[j]? = some (.l ds) ∧ ∃ Iv : Nat → Rho → Mm → Prop, Iv 0 ρ M1 ∧ (∀ i ρ' M', Iv i ρ' M' → M'[j]? = some (.l ds)) ∧
      (∀ (i : Nat) d ρ' M', i < ds.length → ds[i]? = some d → Iv i ρ' M' → WG C tg (.d d) ρ' M' fun ρ2 M2 => WS (C.at M1.length) body ρ2 M2 (Φ.out C.n0 (Iv (i + 1)))) ∧ ∀ ρ' M', Iv ds.length ρ' M' → Φ.nx ρ' M')
    (hf : ∀ x, foldedSetIterable iter C.X.env x = pure x := by intro _; rfl) : W1 C (.For tg iter body [] pos) ρ M Φ := by
  refine ⟨fun S α0 H0 α σ H D bs g ev f => uS_of (ps_for own ok.calm (pi_list pe_u) pg_u pss_u hf) ?_⟩
  refine h.run S α0 H0 α σ H _ bs g ev fun v M1 β u H1 p1 em1 g1 r1 => ?_
  obtain ⟨j, ds, e, hj, Iv, h0, hM, h1, h2⟩ := p1
  subst e
  obtain ⟨p, vs, e, ha, hh, rr⟩ := cell_l em1 hj r1
  refine ⟨p, e, ⟨vs, SqL.of hh⟩, ?_⟩
  -- the thing may lie anew at each turn: by what stands in it
  have hl := reps_len rr
  refine for_core bs (g.trans g1) (ev.up g1 em1) f (G := fun α' H' => ∃ us, H' p = some (.lst us) ∧ Reps C.W (Av S α') H' ds us) (n := ds.length) (ds := fun i => ds[i]?) ⟨fun i α' H' hi ⟨us, q, r⟩ => ?_, fun α' H' ⟨us, q, r⟩ => ?_, fun i α' H' x H'' M' hi ⟨us, q, r⟩ g em y => ?_⟩ Iv h0 (fun i ρ' M' α' σ' H' _ hI ev' gg => ?_) h1 h2
  · have hl' := reps_len r
    exact ⟨us, us[i]'(by omega), SqL.of q, by simp [hl', hi]⟩
  · have hl' := reps_len r
    exact ⟨us, SqL.of q, by omega⟩
  · obtain ⟨e, y⟩ := (show H'' = H' ∧ ∀ xs, SqL C.X.K H' p xs → xs[i]? = some x from y)
    subst e
    obtain ⟨d, h1, h2⟩ := reps_get' r (y us (SqL.of q))
    exact ⟨Same.refl _, d, h1, h2⟩
  · obtain ⟨p', us, e', ha', hh', rr'⟩ := cell_l ev'.em (hM i ρ' M' hI) (v := u) (by
      obtain ⟨γ, eγ, gγ⟩ := gg
      subst eγ
      exact r1.up gγ)
    rw [e] at e'
    cases e'
    exact ⟨us, hh', rr'⟩
end
end Dl

/-! DL7: zip of lists and tuples in any mix. -/
namespace Dl
open PySem L2

/-- a tuple (true) or a list -/
def SqB (t : Bool) (K : PySem.W.Frag) (H : Hp) (a : Addr) (xs : List V) : Prop := match t with | true => SqT K H a xs | false => SqL K H a xs
def ItB (t : Bool) (h : Heap) (it a : Addr) (i : Nat) : Prop := match t with | true => h.IsTupleIter it a i | false => h.IsListIter it a i
def IsB (t : Bool) (h : Heap) (a : Addr) (items : Array Value) : Prop := match t with | true => h.IsTuple a items | false => h.IsList a items
theorem drawsB {prog : Program} {w : World} {A : Around} (t : Bool) (hh : A.handled = none) (it a : Addr) (hne : a ≠ it) (items : Array Value) :
    Draws prog w A it [it, a] items.size (fun i v => items[i]? = some v) (fun i h => ItB t h it a i ∧ IsB t h a items) := by
  cases t with
  | true => exact Draws.tuple hh it a hne items
  | false => exact Draws.list hh it a hne items
theorem ItB.obj {t : Bool} {h : Heap} {it a : Addr} {i : Nat} (x : ItB t h it a i) : ∃ o, h.get? it = some o ∧ ∀ v, o.data ≠ .cell v := by
  cases t with
  | true => obtain ⟨o, e, c, d⟩ := x; exact ⟨o, e, fun v z => by rw [d] at z; cases z⟩
  | false => obtain ⟨o, e, c, d⟩ := x; exact ⟨o, e, fun v z => by rw [d] at z; cases z⟩
theorem ItB.at {t : Bool} {h h' : Heap} {it a : Addr} {i : Nat} (x : ItB t h it a i) (k : ∀ o, h.get? it = some o → h'.get? it = some o) : ItB t h' it a i := by
  cases t with
  | true => exact PySem.Heap.IsTupleIter.at x k
  | false => exact PySem.Heap.IsListIter.at x k
section
variable {X : Cx} {pins : List (Addr × Obj)} {σ : L2.St} {H : Hp} {s : Shared} {a : Addr} {xs ys : List V} {t : Bool}
theorem invB (I : Inv X pins σ H s) (h : SqB t X.K H a xs) : ∃ its : List Value, Vals xs its ∧ IsB t s.heap a its.toArray ∧ a < s.heap.objs.size := by
  cases t with
  | true => obtain ⟨its, r, p, _⟩ := I.tuple h; obtain ⟨o, ho, _⟩ := id p; exact ⟨its, r, p, Heap.lt_size ho⟩
  | false => obtain ⟨its, r, p, _⟩ := I.list h; exact ⟨its, r, p.isList, p.lt⟩
theorem injB (I : Inv X pins σ H s) (h : SqB t X.K H a xs) (h' : SqB t X.K H a ys) : xs = ys := by
  cases t with
  | true => exact I.tuple_inj h h'
  | false => exact I.list_inj h h'
end
def ItzG (t1 t2 : Bool) (K : PySem.W.Frag) (a b : Addr) : It :=
  ⟨fun i H => ∃ (xs ys : List V) (x y : V), SqB t1 K H a xs ∧ SqB t2 K H b ys ∧ xs[i]? = some x ∧ ys[i]? = some y,
    fun i H v H' => ∃ T x y, v = .ref T ∧ H T = none ∧ (∃ o : Obj, H' = upd H T (.frz o (.tup [x, y])) ∧ o.dict = none) ∧ (∀ xs, SqB t1 K H a xs → xs[i]? = some x) ∧ ∀ ys, SqB t2 K H b ys → ys[i]? = some y,
    fun i H => ∃ xs ys : List V, SqB t1 K H a xs ∧ SqB t2 K H b ys ∧ i ≤ xs.length ∧ i ≤ ys.length ∧ (xs.length = i ∨ ys.length = i)⟩
theorem turn_zipG {P : Program} {w : World} {K : PySem.W.Frag} {elts : List Expr} {kk : Nat} {tpos : Pos} {t1 t2 : Bool} {a b z TI TO i1 i2 : Addr} (D : ZipSep2 z TI TO i1 i2 [i1, a] [i2, b]) (ne1 : a ≠ i1) (ne2 : b ≠ i2) :
    Turn P w K (.Tuple elts kk tpos) (ItzG t1 t2 K a b) [z, TI, TO, i1, i2] z (fun i h => IsZip h z TI TO .none ∧ IsTupOf2 h TI (.ref i1) (.ref i2) ∧ (∃ x y, IsTupOf2 h TO x y) ∧ ItB t1 h i1 a i ∧ ItB t2 h i2 b i) where
  mem := by simp
  obj := fun i h st c hc => by
    obtain ⟨hz, hTI, ⟨x, y, hTO⟩, h1, h2⟩ := st
    have e' : c = z ∨ c = TI ∨ c = TO ∨ c = i1 ∨ c = i2 := by simpa using hc
    rcases e' with q | q | q | q | q
    · rw [q]; exact ⟨_, hz, fun v q => nomatch q⟩
    · rw [q]; exact ⟨_, hTI, fun v q => nomatch q⟩
    · rw [q]; exact ⟨_, hTO, fun v q => nomatch q⟩
    · rw [q]; exact h1.obj
    · rw [q]; exact h2.obj
  keep := fun i h h' st k => by
    obtain ⟨hz, hTI, ⟨x, y, hTO⟩, h1, h2⟩ := st
    exact ⟨k z (by simp) _ hz, k TI (by simp) _ hTI, ⟨x, y, k TO (by simp) _ hTO⟩, h1.at fun o q => k i1 (by simp) o q, h2.at fun o q => k i2 (by simp) o q⟩
  item := by
    intro X hP hw hK hc i pins s σ H E I hf st hg
    subst hP hw hK
    obtain ⟨hz, hTI, ⟨x0, y0, hTO⟩, h1, h2⟩ := st
    obtain ⟨xs, ys, x, y, hqx, hqy, hx, hy⟩ := hg
    obtain ⟨its, rv, p, _⟩ := invB I hqx
    obtain ⟨its2, rv2, p2, _⟩ := invB I hqy
    obtain ⟨u, hu, ru⟩ := rv.get hx
    obtain ⟨u2, hu2, ru2⟩ := rv2.get hy
    have hzl : z < s.heap.objs.size := Heap.lt_size hz
    have hh := I.ok.hd hc
    have z1 : z ≠ i1 := D.zi1
    have z2 : z ≠ i2 := D.zi2
    refine wpAny_pyNext_zipD2_item D (drawsB t1 (by exact hh) i1 a ne1 its.toArray) (drawsB t2 (by exact hh) i2 b ne2 its2.toArray) hz hTI hTO ⟨h1, p⟩ ⟨h2, p2⟩ (by simpa using (List.getElem?_eq_some_iff.mp hu).1) (by simpa using (List.getElem?_eq_some_iff.mp hu2).1) fun x1 x2 h' tk y1 y2 z' TO' h1' h2' hT hsz hk => ?_
    have e1 : x1 = u := by simp at y1; rw [hu] at y1; exact (Option.some.inj y1).symm
    have e2 : x2 = u2 := by simp at y2; rw [hu2] at y2; exact (Option.some.inj y2).symm
    subst e1; subst e2
    refine ⟨_, rfl, wpAny_letOwnedTupleGo_zip (s := { s with heap := h', toks := tk }) z' fun h'' z'' sb => ?_⟩
    have hT2 : h''.get? s.heap.objs.size = some { cls := .type "tuple", data := .seq #[x1, x2] } := (sb.2 _ (Nat.ne_of_gt hzl)).trans hT
    have new : ObjOk X.prog X.w (upd H s.heap.objs.size (.frz { cls := .type "tuple", data := .seq #[x1, x2] } (.tup [x, y]))) h'' s.heap.objs.size (.frz { cls := .type "tuple", data := .seq #[x1, x2] } (.tup [x, y])) :=
      ⟨hT2, by show 2 ≤ sizeLine; decide, [x1, x2], .cons ru (.cons ru2 .nil), ⟨_, hT2, rfl, _, rfl⟩⟩
    have I1 : Inv X pins σ (upd H s.heap.objs.size (.frz { cls := .type "tuple", data := .seq #[x1, x2] } (.tup [x, y]))) { s with heap := h'', toks := tk } :=
      I.turnedNew (t' := tk) (ch := [z, TI, TO, i1, i2]) (fun c o hb q => (sb.2 c (fun q' => hb (by simp [q']))).trans (hk c o (fun q' => hb (by simp [q'])) (fun q' => hb (by simp [q'])) (fun q' => hb (by simp [q'])) (fun q' => hb (by simp [q'])) q)) hf (Nat.le_refl _) new
    refine ⟨.ref s.heap.objs.size, _, I1, rfl, ⟨_, x, y, rfl, I.hok.fresh (Nat.le_refl _), ⟨_, rfl, rfl⟩, fun l hl => by rw [injB I hl hqx]; exact hx, fun l hl => by rw [injB I hl hqy]; exact hy⟩, ⟨z'', ?_, ⟨x1, x2, ?_⟩, ?_, ?_⟩, fun c hcm => ?_⟩
    · exact (sb.2 _ D.TIz).trans (hk _ _ D.TIz D.TITO D.TIi1 D.TIi2 hTI)
    · exact (sb.2 _ D.TOz).trans TO'
    · exact h1'.1.at fun o q => (sb.2 _ (Ne.symm z1)).trans q
    · exact h2'.1.at fun o q => (sb.2 _ (Ne.symm z2)).trans q
    · have hlt : c < s.heap.objs.size := by
        have e' : c = z ∨ c = TI ∨ c = TO ∨ c = i1 ∨ c = i2 := by simpa using hcm
        rcases e' with q | q | q | q | q
        · rw [q]; exact hzl
        · rw [q]; exact Heap.lt_size hTI
        · rw [q]; exact Heap.lt_size hTO
        · rw [q]; obtain ⟨_, e1, _⟩ := h1.obj; exact Heap.lt_size e1
        · rw [q]; obtain ⟨_, e2, _⟩ := h2.obj; exact Heap.lt_size e2
      rw [upd_ne (Nat.ne_of_lt hlt)]
      exact (hf c hcm).1
  done := by
    intro X hP hw hK hc i pins s σ H E I hf st hg
    subst hP hw hK
    obtain ⟨hz, hTI, ⟨x0, y0, hTO⟩, h1, h2⟩ := st
    obtain ⟨xs, ys, hqx, hqy, hl1, hl2, hend⟩ := hg
    obtain ⟨its, rv, p, _⟩ := invB I hqx
    obtain ⟨its2, rv2, p2, _⟩ := invB I hqy
    have l1 := rv.length
    have l2 := rv2.length
    have hh := I.ok.hd hc
    exact wpAny_pyNext_zipD2_end D (drawsB t1 (by exact hh) i1 a ne1 its.toArray) (drawsB t2 (by exact hh) i2 b ne2 its2.toArray) hz hTI hTO ⟨h1, p⟩ ⟨h2, p2⟩ (by simp; omega) (by simp; omega) (by simp; omega) fun h' tk hk => ⟨rfl, I.turnedL (t' := tk) (ch := [z, TI, TO, i1, i2]) (fun c o hb q =>
      hk c o (fun q' => hb (by simp [q'])) (fun q' => hb (by simp [q'])) (fun q' => hb (by simp [q'])) (fun q' => hb (by simp [q'])) q) hf⟩
  self := fun A i s Q E st h => wpAny_pyIter_zip st.1 h
def iZipG (t1 t2 : Bool) (K : PySem.W.Frag) (ta : TA) : TI := fun σ H R => ta σ H fun vs H1 => ∃ a b xs ys, vs = [.ref a, .ref b] ∧ SqB t1 K H1 a xs ∧ SqB t2 K H1 b ys ∧ R (ItzG t1 t2 K a b) H1
def itO (t : Bool) (a : Addr) : Obj := match t with
  | true => { cls := .type "tuple_iterator", data := .fields #[.ref a, .int 0 0] }
  | false => { cls := .type "list_iterator", data := .fields #[.ref a, .int 0 0] }
theorem beginsB (t : Bool) (a : Addr) (items : Array Value) : Begins (.ref a) (itO t a) fun h => IsB t h a items := by
  cases t with
  | true => exact begins_tuple a items
  | false => exact begins_list a items
theorem itO_at {t : Bool} {h : Heap} {a it : Addr} (e : h.get? it = some (itO t a)) : ItB t h it a 0 := by
  cases t with
  | true => exact ⟨_, e, rfl, rfl⟩
  | false => exact ⟨_, e, rfl, rfl⟩
theorem pi_zipG (t1 t2 : Bool) {X : Cx} {e e2 : Expr} {ta : TA} {p pos tpos : Pos} {elts : List Expr} {kk : Nat} (hg : Gl X "zip") (hm : X.mg "zip" = none) (ha : PA X [e, e2] ta)
    (hs : starEach [e, e2] X.env = (false, eval e X.env) :: starEach [e2] X.env := by rfl) (hpl : (backTo pos (starEach [e2] X.env)).any (·.1) = false := by rfl) :
    PI X (.Tuple elts kk tpos) (.Call (.Name "zip" p) [e, e2] [] pos) (iZipG t1 t2 X.K ta) := by
  refine ⟨fun pins s σ H R I h => ?_⟩
  refine PyProof.Rows.Call_ (ld_blt I hg hm PyProof.Rows.boot_zip (PyProof.Rows.callWith_type1 (thn (ha.run pos pins s σ H _ I h) fun us s1 ⟨vs, H1, I1, r1, q1⟩ => ?_) hs hpl))
  obtain ⟨a, b, xs, ys, ex, hqx, hqy, q⟩ := q1
  subst ex
  cases r1 with
  | cons r rr =>
    cases rr with
    | cons r' rr =>
      cases rr
      cases r
      cases r'
      obtain ⟨its, rv, p1, la⟩ := invB I1 hqx
      obtain ⟨its2, rv2, p2, lb⟩ := invB I1 hqy
      refine zip_begins2 (beginsB t1 a its.toArray) (beginsB t2 b its2.toArray) p1 p2 fun h' hz hTI hTO h1 h2 hsz hk => wpAny_pyIter_zip hz ?_
      have I2 : Inv X pins σ H1 { s1 with heap := h' } := I1.kept (t' := s1.toks) hk
      have sep : ZipSep2 (s1.heap.objs.size + 4) (s1.heap.objs.size + 2) (s1.heap.objs.size + 3) s1.heap.objs.size (s1.heap.objs.size + 1) [s1.heap.objs.size, a] [s1.heap.objs.size + 1, b] :=
        zip_sep2 (fp1 := [a]) (fp2 := [b]) (fun c hc => by simp at hc; rw [hc]; exact la) (fun c hc => by simp at hc; rw [hc]; exact lb)
      refine ⟨s1.heap.objs.size + 4, [s1.heap.objs.size + 4, s1.heap.objs.size + 2, s1.heap.objs.size + 3, s1.heap.objs.size, s1.heap.objs.size + 1], _, _, H1, rfl, I2, turn_zipG sep (Nat.ne_of_lt la) (Nat.ne_of_lt (Nat.lt_succ_of_lt lb)), ⟨hz, hTI, ⟨_, _, hTO⟩, itO_at h1, itO_at h2⟩, fun c hcm => ?_, q⟩
      have e' : c = s1.heap.objs.size + 4 ∨ c = s1.heap.objs.size + 2 ∨ c = s1.heap.objs.size + 3 ∨ c = s1.heap.objs.size ∨ c = s1.heap.objs.size + 1 := by simpa using hcm
      have hle : s1.heap.objs.size ≤ c := by
        rcases e' with z | z | z | z | z
        · rw [z]; exact Nat.le_add_right _ _
        · rw [z]; exact Nat.le_add_right _ _
        · rw [z]; exact Nat.le_add_right _ _
        · rw [z]; exact Nat.le_refl _
        · rw [z]; exact Nat.le_add_right _ _
      exact I1.fpOk hle (I1.hok.fresh hle)

section
variable {P : Program} {w : World} {K : PySem.W.Frag} {mg : Str → Option Value} {base : Heap} {N gs ps : List Str} {Vi Li : List Nat} {k : Nat}
variable {C : Ctx} {e e2 a b c o : Expr} {es : List Expr} {st : Stmt} {sts : List Stmt} {ρ : Rho} {M : Mm} {Φ : Kn} {Ψ : AV → Mm → Prop} {x y : Str} {pos p pos' : Pos}
/-- a value, a tuple or a list that is not changed any more, as a source -/
def frz? : AV → Option (Bool × List D)
  | .d (.tup ds) => some (true, ds)
  | .d (.lst ds) => some (false, ds)
  | _ => none
theorem frz_src {S : Addr → Prop} {α : Als} {H : Hp} {v : AV} {u : V} {t : Bool} {ds : List D} (wk : C.W.K = C.X.K) (h : frz? v = some (t, ds)) (r : RepA C.W S α H v u) :
    ∃ p vs, u = .ref p ∧ Reps C.W (Av S α) H ds vs ∧ ∀ α' H', Gr0 α α' H H' → SqB t C.X.K H' p vs := by
  cases v with
  | m k => cases h
  | d x =>
    cases x with
    | tup es =>
      cases h
      obtain ⟨a, vs, e, tt, rr⟩ := (show ∃ a vs, u = .ref a ∧ TSq C.W (Av S α) H a vs ∧ Reps C.W (Av S α) H ds vs from r)
      exact ⟨a, vs, e, rr, fun α' H' g => show SqT C.X.K H' a vs from wk ▸ tt.on g⟩
    | lst es =>
      cases h
      obtain ⟨a, vs, e, tt, rr⟩ := (show ∃ a vs, u = .ref a ∧ LSq C.W (Av S α) H a vs ∧ Reps C.W (Av S α) H ds vs from r)
      exact ⟨a, vs, e, rr, fun α' H' g => show SqL C.X.K H' a vs from wk ▸ tt.on g⟩
    | _ => cases h
theorem zip_at {l1 l2 : List D} {i : Nat} {d1 d2 : D} (h1 : l1[i]? = some d1) (h2 : l2[i]? = some d2) : (l1.zip l2)[i]? = some (d1, d2) := by
  rw [List.getElem?_zip_eq_some]; exact ⟨h1, h2⟩
/-- for a, b in zip(x, y), both values -/
theorem w1_forZ (t1 t2 : Bool) {elts : List Expr} {kk ix : Nat} {tpos : Pos} {body : List Stmt} (ok : Cok C P w K mg base N gs Vi Li k) (hN : gs[ix]? = some ("zip" : Str)) (hm : mg "zip" = none) (own : PassesOwn (model C.X.prog C.X.w) C.X.A C.X.env C.X.xe)
    (h : WE C a ρ M fun v1 M1 => WE C b ρ M1 fun v2 M2 => ∃ ds es, frz? v1 = some (t1, ds) ∧ frz? v2 = some (t2, es) ∧ ∃ Iv : Nat → Rho → Mm → Prop, Iv 0 ρ M2 ∧
      (∀ (i : Nat) d e ρ' M', i < min ds.length es.length → ds[i]? = some d → es[i]? = some e → Iv i ρ' M' → WG C (.Tuple elts kk tpos) (.d (.tup [d, e])) ρ' M' fun ρ2 M3 => WS (C.at M2.length) body ρ2 M3 (Φ.out C.n0 (Iv (i + 1)))) ∧ ∀ ρ' M', Iv (min ds.length es.length) ρ' M' → Φ.nx ρ' M')
    (hs : starEach [a, b] C.X.env = (false, eval a C.X.env) :: starEach [b] C.X.env := by rfl) (hs2 : starEach [b] C.X.env = (false, eval b C.X.env) :: starEach [] C.X.env := by rfl) (hpl : (backTo pos' (starEach [b] C.X.env)).any (·.1) = false := by rfl)
    (hf : ∀ x, foldedSetIterable (.Call (.Name "zip" p) [a, b] [] pos') C.X.env x = pure x := by intro _; rfl) :
    W1 C (.For (.Tuple elts kk tpos) (.Call (.Name "zip" p) [a, b] [] pos') body [] pos) ρ M Φ := by
  refine ⟨fun S α0 H0 α σ H D bs g ev f => uS_of (ps_for own ok.calm (pi_zipG t1 t2 (ok.gl ix _ hN) (by rw [ok.mgE]; exact hm) (pa_cons pe_u (pa_cons pe_u pa_nil hs2) hs) hs hpl) pg_u pss_u hf) ?_⟩
  refine h.run S α0 H0 α σ H _ bs g ev fun v1 M1 β u1 H1 p1 em1 g1 r1 => ?_
  refine p1.run S α0 H0 (α ++ β) σ H1 _ bs (g.trans g1) (ev.up g1 em1) fun v2 M2 β2 u2 H2 p2 em2 g2 r2 => ?_
  obtain ⟨ds, es, f1, f2, Iv, h0, h1, h2⟩ := p2
  obtain ⟨q1, vs1, e1, rr1, k1⟩ := frz_src ok.wk f1 (r1.up g2)
  obtain ⟨q2, vs2, e2, rr2, k2⟩ := frz_src ok.wk f2 r2
  have l1 := reps_len rr1
  have l2 := reps_len rr2
  refine ⟨q1, q2, vs1, vs2, by rw [e1, e2], k1 _ _ Gr0.refl, k2 _ _ Gr0.refl, ?_⟩
  refine for_core bs ((g.trans g1).trans g2) ((ev.up g1 em1).up g2 em2) f (G := fun _ H' => SqB t1 C.X.K H' q1 vs1 ∧ SqB t2 C.X.K H' q2 vs2) (n := min ds.length es.length) (ds := fun i => ((ds.zip es)[i]?).map fun p => .tup [p.1, p.2])
    ⟨fun i α' H' hi ⟨s1, s2⟩ => ⟨vs1, vs2, vs1[i]'(by omega), vs2[i]'(by omega), s1, s2, List.getElem?_eq_getElem _, List.getElem?_eq_getElem _⟩, fun α' H' ⟨s1, s2⟩ => ⟨vs1, vs2, s1, s2, by omega, by omega, by omega⟩, fun i α' H' x H'' M' hi ⟨s1, s2⟩ gg em y => ?_⟩ Iv h0
    (fun i ρ' M' α' σ' H' _ _ _ gg => ⟨k1 _ _ gg, k2 _ _ gg⟩) (fun i d ρ' M' hi e hI => ?_) h2
  · obtain ⟨T, x1, x2, ex, hT, ⟨oT, eH, hdT⟩, y1, y2⟩ := (show ∃ T x1 x2, x = .ref T ∧ H' T = none ∧ (∃ o : Obj, H'' = upd H' T (.frz o (.tup [x1, x2])) ∧ o.dict = none) ∧ (∀ xs, SqB t1 C.X.K H' q1 xs → xs[i]? = some x1) ∧ ∀ ys, SqB t2 C.X.K H' q2 ys → ys[i]? = some x2 from y)
    obtain ⟨d1, z1, z2⟩ := reps_get' rr1 (y1 vs1 s1)
    obtain ⟨d2, z3, z4⟩ := reps_get' rr2 (y2 vs2 s2)
    obtain ⟨γ, eγ, gγ⟩ := gg
    subst eγ
    subst eH
    refine ⟨same_new hT, .tup [d1, d2], by simp [zip_at z1 z3], ?_⟩
    refine ⟨T, [x1, x2], ex, TSq.of (em.off hT) hdT upd_same, ?_⟩
    exact reps_same (same_new hT) (reps_cons (z2.up gγ) (reps_cons (z4.up gγ) reps_nil))
  · have e1' : ds[i]? = some (ds[i]'(by omega)) := List.getElem?_eq_getElem _
    have e2' : es[i]? = some (es[i]'(by omega)) := List.getElem?_eq_getElem _
    simp [zip_at e1' e2'] at e
    subst e
    exact h1 i _ _ ρ' M' hi e1' e2' hI
end
end Dl

/-! DL8: attributes, instances made, isinstance, own ==, dicts, try. -/
namespace Dl
open PySem L2

/-- what is known of class c of the text -/
structure ClsF (K : PySem.W.Frag) (W : Wd) (c : Nat) : Prop where
  cls : Cls K (W.ca c)
  na : ∀ (i : Nat) f, (W.cf c)[i]? = some f → NoAttr K (W.ca c) f
  nd : (W.cf c).Nodup
theorem lookup_zip : ∀ {fs : List Str} {vs : List V} {i : Nat} {f : Str} {v : V}, fs.Nodup → fs[i]? = some f → vs[i]? = some v → (fs.zip vs).lookup f = some v
  | [], _, _, _, _, _, h, _ => by simp at h
  | _ :: _, [], _, _, _, _, _, h => by simp at h
  | g :: fs, u :: vs, 0, f, v, nd, h1, h2 => by
    simp at h1 h2; subst h1; subst h2
    simp [List.lookup]
  | g :: fs, u :: vs, i + 1, f, v, nd, h1, h2 => by
    have n := List.nodup_cons.mp nd
    have h1' : fs[i]? = some f := by simpa using h1
    have ne : (f == g) = false := by
      rw [beq_eq_false_iff_ne]
      rintro rfl
      exact n.1 (List.mem_of_getElem? h1')
    rw [List.zip_cons_cons, List.lookup_cons, ne]
    exact lookup_zip n.2 h1' (by simpa using h2)
/-- the next attribute, or one that is there -/
def putA (ds : List D) (i : Nat) (d : D) : List D := if i < ds.length then ds.set i d else ds ++ [d]
theorem putF_zip : ∀ {fs : List Str} {vs : List V} {i : Nat} {f : Str} {v : V}, fs.Nodup → fs[i]? = some f → i ≤ vs.length → putF f v (fs.zip vs) = fs.zip (if i < vs.length then vs.set i v else vs ++ [v]) ∨ vs.length > fs.length
  | [], _, _, _, _, _, h, _ => by simp at h
  | g :: fs, [], i, f, v, nd, h1, h2 => by
    have : i = 0 := by simpa using h2
    subst this
    simp at h1; subst h1
    left
    simp [putF]
  | g :: fs, u :: vs, 0, f, v, nd, h1, h2 => by
    simp at h1; subst h1
    left
    simp [putF]
  | g :: fs, u :: vs, i + 1, f, v, nd, h1, h2 => by
    have n := List.nodup_cons.mp nd
    have h1' : fs[i]? = some f := by simpa using h1
    have ne : ¬ g = f := by
      rintro rfl
      exact n.1 (List.mem_of_getElem? h1')
    rcases putF_zip (v := v) n.2 h1' (by simpa using h2) with e | e
    · left
      rw [List.zip_cons_cons]
      show (if g = f then (g, v) :: fs.zip vs else (g, u) :: putF f v (fs.zip vs)) = _
      rw [if_neg ne, e]
      by_cases hl : i < vs.length
      · rw [if_pos hl, if_pos (by simpa using hl)]; simp
      · rw [if_neg hl, if_neg (by simpa using hl)]; simp
    · right; simpa using e
theorem reps_putA {W : Wd} {S : Addr → Prop} {H : Hp} {ds : List D} {vs : List V} {d : D} {v : V} (i : Nat) (r : Reps W S H ds vs) (h : Rep W S H d v) : Reps W S H (putA ds i d) (if i < vs.length then vs.set i v else vs ++ [v]) := by
  unfold putA
  rw [reps_len r]
  by_cases hl : i < ds.length
  · rw [if_pos hl, if_pos hl]; exact reps_set i r h
  · rw [if_neg hl, if_neg hl]; exact reps_app r (reps_cons h reps_nil)

section
def uF (X : Cx) (f : Str) : V → Hp → VK → Prop := fun x H Q => ∀ pins s σ u, Inv X pins σ H s → RelV x u → wpAny (model X.prog X.w) X.A (getAttr u f true) (EP X pins σ Q) X.xe s
theorem pe_attrU {X : Cx} {e : Expr} {f : Str} {pos : Pos} {te : TE} (he : PE X e te) (hb : attributeBase e f X.env (eval e X.env) = eval e X.env) : PE X (.Attribute e f pos) (tUn (uF X f) te) := by
  refine ⟨fun pins s σ H Q I h => ?_⟩
  exact attr_of hb (thn (he.run pins s σ H _ I h) fun u s1 ⟨x, H1, I1, rx, q⟩ => q pins s1 σ u I1 rx)
structure WF (C : Ctx) (f : Str) (x : AV) (M : Mm) (Ψ : AV → Mm → Prop) : Prop where
  run : ∀ S α H (Q : VK) v, EM C.W S α M H → RepA C.W S α H x v → PostE C S α H Ψ Q → uF C.X f v H Q
variable {P : Program} {w : World} {K : PySem.W.Frag} {mg : Str → Option Value} {base : Heap} {N gs ps : List Str} {Vi Li : List Nat} {k : Nat}
variable {C : Ctx} {e e2 a b o : Expr} {es : List Expr} {st : Stmt} {sts : List Stmt} {ρ : Rho} {M : Mm} {Φ : Kn} {Ψ : AV → Mm → Prop} {x f : Str} {pos p pos' : Pos}
theorem we_attr (h : WE C e ρ M fun v M1 => WF C f v M1 Ψ) (hb : attributeBase e f C.X.env (eval e C.X.env) = eval e C.X.env := by rfl) : WE C (.Attribute e f pos) ρ M Ψ := by
  refine ⟨fun S α0 H0 α σ H Q bs g ev q => uE_of (pe_attrU pe_u hb) ?_⟩
  refine h.run S α0 H0 α σ H _ bs g ev fun v M1 β u H1 p1 em1 g1 r1 => ?_
  exact p1.run S (α ++ β) H1 Q u em1 r1 (thnE q g1)
theorem wf_ob {c : Nat} {ds : List D} {d : D} (ok : Cok C P w K mg base N gs Vi Li k) (hc : ClsF K C.W c) (i : Nat) (hi : (C.W.cf c)[i]? = some f) (hd : ds[i]? = some d) (h : Ψ (.d d) M) : WF C f (.d (.ob c ds)) M Ψ := by
  refine ⟨fun S α H Q v em r q pins s σ u I rx => ?_⟩
  obtain ⟨a, dx, vs, e, n, t, l, rr⟩ := (show ∃ a dx vs, v = .ref a ∧ ¬ Av S α a ∧ H a = some (.ins (C.W.ca c) dx ((C.W.cf c).zip vs)) ∧ vs.length = (C.W.cf c).length ∧ Reps C.W (Av S α) H ds vs from r)
  obtain ⟨y, h1, h2⟩ := reps_get rr hd
  subst e
  cases rx
  refine getattr_ok I t (ok.kE ▸ hc.cls) (ok.kE ▸ hc.na i f hi) (lookup_zip hc.nd hi h1) fun u' s' I' ru => ?_
  exact ⟨y, H, I', ru, stayE (a := .d d) em q h2 h⟩
theorem wf_m {c j : Nat} {ds : List D} {d : D} (ok : Cok C P w K mg base N gs Vi Li k) (hc : ClsF K C.W c) (i : Nat) (hi : (C.W.cf c)[i]? = some f) (hj : M[j]? = some (.o c ds)) (hd : ds[i]? = some d) (h : Ψ (.d d) M) : WF C f (.m j) M Ψ := by
  refine ⟨fun S α H Q v em r q pins s σ u I rx => ?_⟩
  obtain ⟨a, dx, vs, e, ha, t, l, rr⟩ := cell_o em hj r
  obtain ⟨y, h1, h2⟩ := reps_get rr hd
  subst e
  cases rx
  refine getattr_ok I t (ok.kE ▸ hc.cls) (ok.kE ▸ hc.na i f hi) (lookup_zip hc.nd hi h1) fun u' s' I' ru => ?_
  exact ⟨y, H, I', ru, stayE (a := .d d) em q h2 h⟩
/-- self.f = e -/
theorem w1_fld {c : Nat} (ok : Cok C P w K mg base N gs Vi Li k) (hc : ClsF K C.W c) (hfew : (C.W.cf c).length < 1000) (i : Nat) (hi : (C.W.cf c)[i]? = some f)
    (h : WE C e ρ M fun v M1 => WE C o ρ M1 fun x M2 => ∃ j ds d, x = .m j ∧ v = .d d ∧ M2[j]? = some (.o c ds) ∧ i ≤ ds.length ∧ ds.length ≤ (C.W.cf c).length ∧ Nrm ρ (M2.set j (.o c (putA ds i d))) Φ.nx)
    (hs : swapsWith e (some (.Attribute o f pos')) pos.line C.X.env = pure false := by rfl) : W1 C (.Assign [.Attribute o f pos'] e pos) ρ M Φ := by
  refine ⟨fun S α0 H0 α σ H D bs g ev ff => uS_of (ps_fld pe_u pe_u hs) ?_⟩
  refine h.run S α0 H0 α σ H _ bs g ev fun v M1 β u H1 p1 em1 g1 r1 => ?_
  refine p1.run S α0 H0 (α ++ β) σ H1 _ bs (g.trans g1) (ev.up g1 em1) fun x M2 β2 u2 H2 p2 em2 g2 r2 => ?_
  obtain ⟨j, ds, d, e1, e2, hj, hi1, hi2, p2⟩ := p2
  subst e1; subst e2
  obtain ⟨a, dx, vs, e, ha, t, l, rr⟩ := cell_o em2 hj r2
  have r1' : Rep C.W (Av S (α ++ β ++ β2)) H2 d u := r1.up g2
  have hl := reps_len rr
  refine ⟨a, C.W.ca c, dx, (C.W.cf c).zip vs, e, t, ok.kE ▸ hc.cls, ok.kE ▸ hc.na i f hi, ?_, ?_⟩
  · exact Nat.lt_of_le_of_lt (by rw [List.length_zip]; exact Nat.min_le_left _ _) hfew
  · have hil : i < (C.W.cf c).length := (List.getElem?_eq_some_iff.mp hi).1
    have ep : putF f u ((C.W.cf c).zip vs) = (C.W.cf c).zip (if i < vs.length then vs.set i u else vs ++ [u]) := by
      rcases putF_zip (vs := vs) (v := u) hc.nd hi (by omega) with z | z
      · exact z
      · omega
    rw [ep]
    obtain ⟨em', g'⟩ := em2.put (o := .ins (C.W.ca c) dx ((C.W.cf c).zip (if i < vs.length then vs.set i u else vs ++ [u]))) (m' := .o c (putA ds i d)) ha ⟨a, dx, _, rfl, upd_same, by
      split
      · simpa using l
      · simp; omega, reps_put ha (reps_putA i rr r1')⟩
    refine ff.nx ρ _ (α ++ β ++ β2 ++ []) σ _ p2.out ?_ (((g.trans g1).trans g2).trans g')
    exact ((ev.up g1 em1).up g2 em2).up g' (by rw [app_nil]; exact em')

/-! ### instances are made -/
structure Ck (P : Program) (w : World) (K : PySem.W.Frag) (mg : Str → Option Value) (base : Heap) (W : Wd) (x : Str) (c : Nat) (ps : List Str) (dsp : DSp) (k : Nat) : Prop where
  ex : ∃ f fd, FnOk P w K mg base (L2.CX P w) k f fd ps (spOf W 1 dsp) ∧ mg x = some (.ref (W.ca c)) ∧ Mk K (W.ca c) f ∧ Binds K fd ps []
theorem run_makeS {X : Cx} {CX : CXT} {k : Nat} {f C : Addr} {fd : FuncData} {ps : List Str} {sp : Sp} {E : L2.St → XK} {pins : List (Addr × Obj)} {σ : L2.St} {H : Hp} {s : Shared} {Q : VK} {us : List Value} {vs : List V} (M : Mk X.K C f) (F : FnOk X.prog X.w X.K X.mg X.base CX k f fd ps sp) (hr : Room (k + 1) X.A) (hb : Binds X.K fd ps [])
    (hx : PassesAt CX X σ (E σ)) (I : Inv X pins σ H s) (r : Vals vs us)
    (h : ∀ x dx, H x = none → H dx = none → dx ≠ x → sp (.ref x :: vs) (upd (upd H dx (.own x)) x (.ins C dx [])) (fun v H2 => v = .non ∧ Q (.ref x) H2) (E σ)) :
    wpAny (model X.prog X.w) X.A (call (.ref C) us) (EP X pins σ Q) X.xe s := by
  have hq := h (s.heap.objs.size + 1) s.heap.objs.size (I.hok.fresh (Nat.le_succ _)) (I.hok.fresh (Nat.le_refl _)) (Nat.ne_of_lt (Nat.lt_succ_self _))
  have I2 := Inv.made (C := C) I
  have r2 : Vals (V.ref (s.heap.objs.size + 1) :: vs) (Value.ref (s.heap.objs.size + 1) :: us) := .cons rfl r
  have hl : (Value.ref (s.heap.objs.size + 1) :: us).length = ps.length := by
    have e := r2.length
    rw [F.len _ _ _ _ hq] at e
    exact e.symm
  have b2 := hb { s with heap := (s.heap.push PySem.W.emptyDict).push (PySem.W.instObj C s.heap.objs.size) } (Value.ref (s.heap.objs.size + 1) :: us) I2.kIn (by rw [List.append_nil]; exact hl)
  rw [List.append_nil] at b2
  refine wpAny_call (make_map (f := f) I.kIn M.makes M.init (beq_iff_eq.mp M.fn) (codeAny_mono (F.run _ X.stack _ _ ⟨Value.ref (s.heap.objs.size + 1) :: us, []⟩ (Value.ref (s.heap.objs.size + 1) :: us) _ _ (E σ) (hr.make C us [])
    (I2.env0.make C us []) b2 r2 hq) fun r s' hq' => ?_))
  cases r with
  | error e => exact hx pins _ _ e s' I2 hq'
  | ok fl =>
    cases fl with
    | ret u =>
      obtain ⟨v, H', I3, rv, ev, q3⟩ := I2.after hq'
      subst ev
      exact ⟨rv, ⟨V.ref (s.heap.objs.size + 1), H', I3, rfl, q3⟩⟩
    | next => exact False.elim hq'
    | brk => exact False.elim hq'
    | cont => exact False.elim hq'
def tMakeS (C : Addr) (sp : Sp) (E : L2.St → XK) (t : TA) : TE := fun σ H Q => t σ H fun vs H1 => ∀ x dx, H1 x = none → H1 dx = none → dx ≠ x →
  sp (.ref x :: vs) (upd (upd H1 dx (.own x)) x (.ins C dx [])) (fun v H2 => v = .non ∧ Q (.ref x) H2) (E σ)
theorem pe_makeS {X : Cx} {CX : CXT} {k : Nat} {f C : Addr} {fd : FuncData} {ps : List Str} {sp : Sp} {E : L2.St → XK} {x : Str} {p pos : Pos} {e : Expr} {es : List Expr} {t : TA} (M : Mk X.K C f) (F : FnOk X.prog X.w X.K X.mg X.base CX k f fd ps sp) (hr : Room (k + 1) X.A) (hg : Gl X x) (hm : X.mg x = some (.ref C)) (hb : Binds X.K fd ps []) (hx : ∀ σ, PassesAt CX X σ (E σ))
    (ha : PA X (e :: es) t) (hdb : (x == ("__debug__" : Str)) = false := by decide) (he : starEach (e :: es) X.env = (false, eval e X.env) :: starEach es X.env := by rfl) (hpl : (backTo pos (starEach es X.env)).any (·.1) = false := by rfl) :
    PE X (.Call (.Name x p) (e :: es) [] pos) (tMakeS C sp E t) := by
  refine ⟨fun pins s σ H Q I h => ?_⟩
  refine wpAny_Call_Name_kw (ld_glob I hg hm ?_ hdb)
  refine PySem.W.callWith_K (h₀ := X.base) I.ok.mod.kin M.kp (thn (ha.run pos pins s σ H _ I h) fun us s1 ⟨vs, H1, I1, r, q⟩ => ⟨I1.kIn, ?_⟩) he hpl
  exact run_makeS M F hr hb (hx σ) I1 r q
/-- C(e, ..): a value from then on -/
theorem we_makeC {c : Nat} {dsp : DSp} {k' : Nat} {f : Addr} {fd : FuncData} (mk : Mk C.X.K (C.W.ca c) f) (FO : FnOk C.X.prog C.X.w C.X.K C.X.mg C.X.base (L2.CX C.X.prog C.X.w) k' f fd ps (spOf C.W 1 dsp)) (hr : Room (k' + 1) C.X.A) (gl : Gl C.X x) (hm : C.X.mg x = some (.ref (C.W.ca c))) (hb : Binds C.X.K fd ps [])
    (h : WA C (e :: es) ρ M fun as M1 => allD as fun _ => dsp (.m 0 :: as) [.o c []] (fun a M' => ∃ ds, M' = [.o c ds] ∧ a = .d .non ∧ ds.length = (C.W.cf c).length ∧ Ψ (.d (.ob c ds)) M1) (fun cl ds M' => C.T cl ds ρ M1))
    (hdb : (x == ("__debug__" : Str)) = false) (he : starEach (e :: es) C.X.env = (false, eval e C.X.env) :: starEach es C.X.env) (hpl : (backTo pos (starEach es C.X.env)).any (·.1) = false) :
    WE C (.Call (.Name x p) (e :: es) [] pos) ρ M Ψ := by
  refine ⟨fun S α0 H0 α σ H Q bs g ev q => ?_⟩
  obtain ⟨Wx, tk, ht⟩ := bs.tk
  refine uE_of (pe_makeS mk FO hr gl hm hb (passAt tk) pa_u hdb he hpl) ?_
  refine h.run S α0 H0 α σ H _ bs g ev fun as M1 β vs H1 p1 em1 g1 r1 => fun z dx hz hdx hne => ?_
  obtain ⟨es', hu, hd⟩ := unD_of_allD p1
  have s1 : Same H1 (upd (upd H1 dx (.own z)) z (.ins (C.W.ca c) dx [])) := fun b o e => by
    rw [upd_ne (ne_of_none e hz), upd_ne (ne_of_none e hdx)]; exact e
  have s1st : ∀ b, H1 b ≠ none → (upd (upd H1 dx (.own z)) z (.ins (C.W.ca c) dx [])) b ≠ none := fun b hb => by
    cases q : H1 b with
    | none => exact absurd q hb
    | some o => rw [s1 b o q]; simp
  have offz : ¬ Av S (α ++ β) z := em1.off hz
  have rr := repsA0 hu r1
  refine ⟨Av S (α ++ β), [[z]], [.o c []], .m 0 :: as, _, _, ⟨.cons ⟨z, dx, [], rfl, by rw [upd_same]; simp, Nat.zero_le _, rfl⟩ .nil, by simp, fun b hb => s1st b (em1.trA b hb)⟩, rfl, ⟨.ref z, vs, rfl, ⟨z, [], rfl, rfl⟩, ?_⟩, hd, fun a M' β2 v H' pp em' g' r' => ?_, fun cl ds M' β2 H' cls dA t em' g' xr => ?_⟩
  · -- the arguments, at the new heap
    have go : ∀ {as : List AV} {vs : List V} {ds : List D}, unD as = some ds → RepsA C.W (Av S (α ++ β)) [] H1 as vs → RepsA C.W (Av S (α ++ β)) [[z]] (upd (upd H1 dx (.own z)) z (.ins (C.W.ca c) dx [])) as vs := by
      intro as
      induction as with
      | nil => intro vs ds _ r; exact r
      | cons a as ih =>
        intro vs ds hu r
        obtain ⟨v, r2, e, h1, t⟩ := (show ∃ v r, vs = v :: r ∧ RepA C.W (Av S (α ++ β)) [] H1 a v ∧ RepsA C.W (Av S (α ++ β)) [] H1 as r from r)
        cases a with
        | m k => cases hu
        | d x =>
          have hu' : (unD as).map (x :: ·) = some ds := hu
          cases q : unD as with
          | none => rw [q] at hu'; cases hu'
          | some es =>
            refine ⟨v, r2, e, ?_, ih q t⟩
            refine Rep.tr (fun b hb => ?_) (fun b o _ e => s1 b o e) x v (show Rep C.W (Av (Av S (α ++ β)) []) H1 x v from h1)
            rcases hb with hb | ⟨l, hl, hb⟩
            · exact .inl (.inl hb)
            · simp at hl; subst hl; simp at hb; subst hb; exact .inr hz
    exact go hu rr
  · obtain ⟨ds, eM, ea, hl, hp⟩ := pp
    subst eM; subst ea
    refine ⟨r', ?_⟩
    have cr := em'.rep
    cases cr with
    | cons h1 h2 =>
      cases h2
      obtain ⟨p', dx', us, ep, hh, hlu, rr'⟩ := h1
      cases ep
      have lu := reps_len rr'
      have g2 : Gr (α ++ β) [] H1 H' := ⟨fun b o n e => g'.kp b o (fun l hl z' => by simp at hl; subst hl; simp at z'; subst z'; rw [hz] at e; cases e) (s1 b o e), fun b hb => g'.st b (s1st b hb), fun l hl => by simp at hl⟩
      have em2 : EM C.W S (α ++ β) M1 H' := by
        refine ⟨Paired.mapP em1.rep fun m l r => r.tr (fun b hb => .inl hb) (fun b o n e => ?_) fun b o hb e => ?_, em1.nd, fun b hb => g2.st b (em1.trk b hb)⟩
        · exact g'.kp b o (fun l hl z' => by simp at hl; subst hl; simp at z'; subst z'; rw [hz] at e; cases e) (s1 b o e)
        · exact g'.kp b o (fun l hl z' => by simp at hl; subst hl; simp at z'; subst z'; rw [hz] at e; cases e) (s1 b o e)
      refine (thnE q g1) _ M1 [] _ H' hp (by rw [app_nil]; exact em2) g2 ?_
      show Rep C.W (Av S (α ++ β ++ [])) H' (.ob c ds) (.ref _)
      rw [app_nil]
      exact ⟨_, dx', us, rfl, offz, hh, by omega, Reps.less (fun b z' => .inl z') rr'⟩
  · -- an exception out of __init__
    have g2 : Gr (α ++ β) [] H1 H' := ⟨fun b o n e => g'.kp b o (fun l hl z' => by simp at hl; subst hl; simp at z'; subst z'; rw [hz] at e; cases e) (s1 b o e), fun b hb => g'.st b (s1st b hb), fun l hl => by simp at hl⟩
    have em2 : EM C.W S (α ++ β) M1 H' := by
      refine ⟨Paired.mapP em1.rep fun m l r => r.tr (fun b hb => .inl hb) (fun b o n e => ?_) fun b o hb e => ?_, em1.nd, fun b hb => g2.st b (em1.trk b hb)⟩
      · exact g'.kp b o (fun l hl z' => by simp at hl; subst hl; simp at z'; subst z'; rw [hz] at e; cases e) (s1 b o e)
      · exact g'.kp b o (fun l hl z' => by simp at hl; subst hl; simp at z'; subst z'; rw [hz] at e; cases e) (s1 b o e)
    have ev2 : Ev C.W S (α ++ β) ρ M1 σ H' := by
      have z' := (ev.up g1 em1).up g2 (by rw [app_nil]; exact em2)
      rw [app_nil] at z'; exact z'
    refine ht cl ds ρ M1 _ σ H' cls dA t ev2 ((g.trans g1).join ⟨[], (app_nil _).symm, g2⟩) ?_
    obtain ⟨e1, xr⟩ := xr
    refine ⟨e1, xr.imp id ?_⟩
    rintro ⟨dd, us, e2, n, hh, hl, rr⟩
    have sub : ∀ b, Av S (α ++ β) b → Av (Av S (α ++ β)) ([[z]] ++ β2) b := fun b z' => .inl z'
    exact ⟨dd, us, e2, fun z' => n (sub _ z'), hh, hl, Reps.less (fun b z' => sub b z') rr⟩
theorem we_make {c : Nat} {dsp : DSp} {k' : Nat} (ok : Cok C P w K mg base N gs Vi Li k) (i : Nat) (hN : gs[i]? = some x) (F : Ck P w K mg base C.W x c ps dsp k') (hk : k' + 1 ≤ k)
    (h : WA C (e :: es) ρ M fun as M1 => allD as fun _ => dsp (.m 0 :: as) [.o c []] (fun a M' => ∃ ds, M' = [.o c ds] ∧ a = .d .non ∧ ds.length = (C.W.cf c).length ∧ Ψ (.d (.ob c ds)) M1) (fun cl ds M' => C.T cl ds ρ M1))
    (hdb : (x == ("__debug__" : Str)) = false := by decide) (he : starEach (e :: es) C.X.env = (false, eval e C.X.env) :: starEach es C.X.env := by rfl) (hpl : (backTo pos (starEach es C.X.env)).any (·.1) = false := by rfl) :
    WE C (.Call (.Name x p) (e :: es) [] pos) ρ M Ψ := by
  obtain ⟨f, fd, FO, hm, mk, hb⟩ := F.ex
  exact we_makeC (by rw [ok.kE]; exact mk) (by rw [ok.prog, ok.wE, ok.kE, ok.mgE, ok.baseE]; exact FO) (ok.room.mono hk) (ok.gl i x hN) (by rw [ok.mgE]; exact hm) (by rw [ok.kE]; exact hb) h hdb he hpl
end
end Dl

/-! DL9: isinstance, own ==, dicts, a try that runs through. -/
namespace Dl
open PySem L2

/-! ### isinstance -/
/-- the built-in type of a value -/
def bT (M : Mm) : AV → Option String
  | .d .non => some "NoneType"
  | .d (.bl _) => some "bool"
  | .d (.int _) => some "int"
  | .d (.str _) => some "str"
  | .d (.tup _) => some "tuple"
  | .d (.lst _) => some "list"
  | .d (.dk _ _) => some "dict"
  | .m k => match M[k]? with
    | some (.l _) => some "list"
    | some (.k _ _) => some "dict"
    | _ => none
  | _ => none
theorem tyx_lst {K : PySem.W.Frag} {H : Hp} {a : Addr} {vs : List V} (h : SqL K H a vs) : TyX K H (.ref a) (.type "list") := by
  rcases h with (h | ⟨o, h⟩) | ⟨o, its, n, h, c, _⟩
  · exact .base (.lst h)
  · exact .base (.frz h)
  · exact .kList h c
theorem tyx_tup {K : PySem.W.Frag} {H : Hp} {a : Addr} {vs : List V} (h : SqT K H a vs) : TyX K H (.ref a) (.type "tuple") := by
  rcases h with (h | ⟨o, h⟩) | ⟨o, its, n, h, c, _⟩
  · exact .base (.tup h)
  · exact .fTuple h
  · exact .kTuple h c
section
variable {C : Ctx} {M : Mm} {Ψ : AV → Mm → Prop}
theorem bT_ok (wk : C.W.K = C.X.K) {S : Addr → Prop} {α : Als} {H : Hp} (em : EM C.W S α M H) : ∀ {a : AV} {v : V} {T : String}, bT M a = some T → RepA C.W S α H a v → TyX C.X.K H v (.type T)
  | .d .non, v, T, e, r => by cases e; rw [show v = .non from r]; exact .base .non
  | .d (.bl b), v, T, e, r => by cases e; rw [show v = .bl b from r]; exact .base (.bl b)
  | .d (.int b), v, T, e, r => by cases e; rw [show v = .int b from r]; exact .base (.int b)
  | .d (.str b), v, T, e, r => by cases e; rw [show v = .str b from r]; exact .base (.str b)
  | .d (.tup es), v, T, e, r => by
    cases e
    obtain ⟨a, vs, e, t, rr⟩ := (show ∃ a vs, v = .ref a ∧ TSq C.W (Av S α) H a vs ∧ Reps C.W (Av S α) H es vs from r)
    rw [e]; exact tyx_tup (wk ▸ t.sq)
  | .d (.lst es), v, T, e, r => by
    cases e
    obtain ⟨a, vs, e, t, rr⟩ := (show ∃ a vs, v = .ref a ∧ LSq C.W (Av S α) H a vs ∧ Reps C.W (Av S α) H es vs from r)
    rw [e]; exact tyx_lst (wk ▸ t.sq)
  | .d (.dk ks es), v, T, e, r => by
    cases e
    obtain ⟨a, vs, e, n, t, rr⟩ := (show ∃ a vs, v = .ref a ∧ ¬ Av S α a ∧ H a = some (.dK (ks.zip vs)) ∧ vs.length = ks.length ∧ Reps C.W (Av S α) H es vs from r)
    rw [e]; exact .base (.dK t)
  | .m k, v, T, e, r => by
    cases q : M[k]? with
    | none => simp [bT, q] at e
    | some m =>
      cases m with
      | l ds =>
        simp [bT, q] at e; subst e
        obtain ⟨p, vs, e, ha, hh, rr⟩ := cell_l em q r
        rw [e]; exact .base (.lst hh)
      | k ks ds =>
        simp [bT, q] at e; subst e
        obtain ⟨p, vs, e, ha, hh, hz, rr⟩ := cell_k em q r
        rw [e]; exact .base (.dK hh)
      | o _ _ => simp [bT, q] at e
      | dead => simp [bT, q] at e
  | .d (.fn _), v, T, e, r => by cases e
  | .d (.ty _), v, T, e, r => by cases e
  | .d (.ob _ _), v, T, e, r => by cases e
  | .d (.tw _), v, T, e, r => by cases e
/-- what isinstance asks of class c of the text -/
structure IsF (K : PySem.W.Frag) (W : Wd) (c : Nat) : Prop where
  cl : Cls K (W.ca c)
  ha : PySem.W.findIn K (.ref (W.ca c)) "__class__" = some (some (.builtin "object.__class__"))
  hn : PySem.W.specialIn K (.builtin "object.__class__") "__get__" = some (some (.builtin "getset_descriptor.__get__"))
  htk : PySem.W.takesIn K (.builtin "object.__class__") = some true
  hm : PySem.W.mroIn K (W.ca c) (.type "object") = some true
theorem tyx_ob (wk : C.W.K = C.X.K) {c : Nat} (F : IsF C.X.K C.W c) {S : Addr → Prop} {α : Als} {H : Hp} {ds : List D} {v : V} (r : RepA C.W S α H (.d (.ob c ds)) v) : TyX C.X.K H v (.ref (C.W.ca c)) := by
  obtain ⟨a, dx, vs, e, n, t, l, rr⟩ := (show ∃ a dx vs, v = .ref a ∧ ¬ Av S α a ∧ H a = some (.ins (C.W.ca c) dx ((C.W.cf c).zip vs)) ∧ vs.length = (C.W.cf c).length ∧ Reps C.W (Av S α) H ds vs from r)
  rw [e]; exact .base (.ins t F.cl F.ha F.hn F.htk F.hm)
/-- isinstance(x, T): both built-in; T a class of the text; x an instance -/
theorem wc_isi_bb (wk : C.W.K = C.X.K) {a : AV} {T n : String} {b : Bool} (ht : bT M a = some n) (hk : kitB n T = some b) (h : Ψ (.d (.bl b)) M) : WC C (.builtin "isinstance") [a, .d (.ty T)] M Ψ :=
  ⟨fun S α H Q vs em r q => by
    obtain ⟨v, u, e, h1, h2⟩ := reps2 r
    refine uC_of call_isi ⟨v, .ty T, .type n, .type T, b, by rw [e, show u = .ty T from h2], .ty T, bT_ok wk em ht h1, kit_ty hk, stayE (a := .d (.bl b)) (v := .bl b) em q rfl h⟩⟩
theorem wc_isi_bc (wk : C.W.K = C.X.K) {a : AV} {n : String} {D : Addr} {b : Bool} (ht : bT M a = some n) (hk : PySem.W.kitOne C.X.K (.type n) (.ref D) = some b) (h : Ψ (.d (.bl b)) M) : WC C (.builtin "isinstance") [a, .d (.fn D)] M Ψ :=
  ⟨fun S α H Q vs em r q => by
    obtain ⟨v, u, e, h1, h2⟩ := reps2 r
    refine uC_of call_isi ⟨v, .ref D, .type n, .ref D, b, by rw [e, show u = .ref D from h2], .own D, bT_ok wk em ht h1, hk, stayE (a := .d (.bl b)) (v := .bl b) em q rfl h⟩⟩
theorem wc_isi_cb (wk : C.W.K = C.X.K) {c : Nat} (F : IsF C.X.K C.W c) {ds : List D} {T : String} {b : Bool} (hk : PySem.W.kitOne C.X.K (.ref (C.W.ca c)) (.type T) = some b) (h : Ψ (.d (.bl b)) M) : WC C (.builtin "isinstance") [.d (.ob c ds), .d (.ty T)] M Ψ :=
  ⟨fun S α H Q vs em r q => by
    obtain ⟨v, u, e, h1, h2⟩ := reps2 r
    refine uC_of call_isi ⟨v, .ty T, .ref (C.W.ca c), .type T, b, by rw [e, show u = .ty T from h2], .ty T, tyx_ob wk F h1, hk, stayE (a := .d (.bl b)) (v := .bl b) em q rfl h⟩⟩
theorem wc_isi_cc (wk : C.W.K = C.X.K) {c : Nat} (F : IsF C.X.K C.W c) {ds : List D} {D : Addr} {b : Bool} (hk : PySem.W.kitOne C.X.K (.ref (C.W.ca c)) (.ref D) = some b) (h : Ψ (.d (.bl b)) M) : WC C (.builtin "isinstance") [.d (.ob c ds), .d (.fn D)] M Ψ :=
  ⟨fun S α H Q vs em r q => by
    obtain ⟨v, u, e, h1, h2⟩ := reps2 r
    refine uC_of call_isi ⟨v, .ref D, .ref (C.W.ca c), .ref D, b, by rw [e, show u = .ref D from h2], .own D, tyx_ob wk F h1, hk, stayE (a := .d (.bl b)) (v := .bl b) em q rfl h⟩⟩

/-! ### x == y by the class's own __eq__ (which raises nothing) -/
structure Eqk (P : Program) (w : World) (K : PySem.W.Frag) (mg : Str → Option Value) (base : Heap) (W : Wd) (c : Nat) (ps : List Str) (dsp : DSp) (k : Nat) : Prop where
  ex : ∃ f fd, FnOk P w K mg base (L2.CX P w) k f fd ps (spOf W 0 dsp) ∧ PySem.W.findIn K (.ref (W.ca c)) "__eq__" = some (some (.ref f)) ∧ PySem.W.isFn K (.ref f) = true ∧ Binds K fd ps []
theorem op_eqO {X : Cx} {n : Nat} {f : Addr} {Ca : Addr} {fd : FuncData} {ps : List Str} {sp : Sp} (F : FnOk X.prog X.w X.K X.mg X.base (L2.CX X.prog X.w) n f fd ps sp) (hr : Room n X.A)
    (hs : PySem.W.findIn X.K (.ref Ca) "__eq__" = some (some (.ref f))) (hf : PySem.W.isFn X.K (.ref f) = true) (hb : Binds X.K fd ps []) :
    OpR X (compareOp .Eq) (fun x y H Q => ∃ a b dx dy fs gs, x = .ref a ∧ y = .ref b ∧ H a = some (.ins Ca dx fs) ∧ H b = some (.ins Ca dy gs) ∧ sp [.ref a, .ref b] H (fun v H' => ∃ t, v = .bl t ∧ Q (.bl t) H') fun _ _ _ => False) := by
  intro pins s σ H x y u v Q I rx ry d
  obtain ⟨a, b, dx, dy, fs, gs, rfl, rfl, ha, hb', hsp⟩ := d
  cases rx
  cases ry
  show wpAny (model X.prog X.w) X.A (richCompare .Eq (.ref a) (.ref b)) (EP X pins σ Q) X.xe s
  obtain ⟨mA, J, _⟩ := ins_get I.hok ha
  obtain ⟨mB, J', _⟩ := ins_get I.hok hb'
  obtain ⟨od, J, _⟩ := J.look
  obtain ⟨od', J', _⟩ := J'.look
  obtain ⟨m, hF⟩ := I.fr
  refine PySem.W.cmp_K (op := .Eq) (tb := .ref Ca) hr.units0 hF I.ok.mod.kin J J'.type (by simp [PySem.W.notFirst]) hs hf ?_
  have hl := F.len _ _ _ _ hsp
  have r2 : Vals [V.ref a, V.ref b] [Value.ref a, Value.ref b] := .cons rfl (.cons rfl .nil)
  refine wpAny_call (codeAny_mono (F.run X.A X.stack s H ⟨[.ref a, .ref b], []⟩ [.ref a, .ref b] [.ref a, .ref b] _ _ hr I.env0 (by
    have := hb s [.ref a, .ref b] I.kIn (by simpa using hl)
    simpa using this) r2 hsp) fun r s' hq => ?_)
  cases r with
  | error e =>
    obtain ⟨_, _, _, _, _, _, _, _, _, _, _, _, z⟩ := hq
    exact z.elim
  | ok fl =>
    cases fl with
    | ret w =>
      obtain ⟨z, H', I', rz, t, ez, q⟩ := I.after hq
      subst ez
      cases rz
      exact ⟨.bl t, H', I', rfl, q⟩
    | next => exact False.elim hq
    | brk => exact False.elim hq
    | cont => exact False.elim hq
variable {P : Program} {w : World} {K : PySem.W.Frag} {mg : Str → Option Value} {base : Heap} {N gs ps : List Str} {Vi Li : List Nat} {k : Nat}
theorem wo_eqO {c k' : Nat} {dsp : DSp} {ds es : List D} (ok : Cok C P w K mg base N gs Vi Li k) (F : Eqk P w K mg base C.W c ps dsp k') (hk : k' ≤ k)
    (h : dsp [.d (.ob c ds), .d (.ob c es)] [] (fun a M' => M' = [] ∧ isB a fun t => Ψ (.d (.bl t)) M) (fun _ _ _ => False)) : WO C (compareOp .Eq) (.d (.ob c ds)) (.d (.ob c es)) M Ψ := by
  obtain ⟨f, fd, FO, hs, hf, hb⟩ := F.ex
  refine ⟨fun S α H Q v u em r1 r2 q => ?_⟩
  have FO' : FnOk C.X.prog C.X.w C.X.K C.X.mg C.X.base (L2.CX C.X.prog C.X.w) k' f fd ps (spOf C.W 0 dsp) := by rw [ok.prog, ok.wE, ok.kE, ok.mgE, ok.baseE]; exact FO
  obtain ⟨a, dx, vs, e1, n1, t1, l1, rr1⟩ := (show ∃ a dx vs, v = .ref a ∧ ¬ Av S α a ∧ H a = some (.ins (C.W.ca c) dx ((C.W.cf c).zip vs)) ∧ vs.length = (C.W.cf c).length ∧ Reps C.W (Av S α) H ds vs from r1)
  obtain ⟨b, dy, us, e2, n2, t2, l2, rr2⟩ := (show ∃ a dx vs, u = .ref a ∧ ¬ Av S α a ∧ H a = some (.ins (C.W.ca c) dx ((C.W.cf c).zip vs)) ∧ vs.length = (C.W.cf c).length ∧ Reps C.W (Av S α) H es vs from r2)
  refine uO_of (op_eqO FO' (ok.room.mono hk) (by rw [ok.kE]; exact hs) (by rw [ok.kE]; exact hf) (by rw [ok.kE]; exact hb)) ⟨a, b, dx, dy, _, _, e1, e2, t1, t2, ?_⟩
  have ra : RepsA C.W S α H [.d (.ob c ds), .d (.ob c es)] [.ref a, .ref b] := ⟨_, _, rfl, (by rw [e1] at r1; exact r1), _, _, rfl, (by rw [e2] at r2; exact r2), rfl⟩
  refine ⟨Av S α, [], [], _, _, _, ⟨.nil, by simp, em.trA⟩, rfl, repsA0 (ds := [.ob c ds, .ob c es]) rfl ra, h, fun x M' β v' H' pp em' g' r' => ?_, fun _ _ _ _ _ _ _ z _ _ _ => z.elim⟩
  obtain ⟨eM, pb⟩ := pp
  subst eM
  obtain ⟨t, et, hh⟩ := isB_of pb r'
  obtain ⟨h1, h2, _⟩ := back0 em em' g' r'
  refine ⟨t, et, q (.d (.bl t)) M β (.bl t) H' hh (by simpa using h1) h2 rfl⟩

/-! ### dicts of ints and texts -/
def keyOf : AV → Option Key
  | .d (.int i) => some (.inl i)
  | .d (.str x) => some (.inr x)
  | _ => none
theorem keyOf_ok {W : Wd} {S : Addr → Prop} {α : Als} {H : Hp} : ∀ {a : AV} {v : V} {ky : Key}, keyOf a = some ky → RepA W S α H a v → v = kV ky
  | .d (.int i), v, ky, e, r => by cases e; exact r
  | .d (.str i), v, ky, e, r => by cases e; exact r
  | .m _, v, ky, e, r => by cases e
  | .d .non, v, ky, e, r => by cases e
  | .d (.bl _), v, ky, e, r => by cases e
  | .d (.tup _), v, ky, e, r => by cases e
  | .d (.tw _), v, ky, e, r => by cases e
  | .d (.lst _), v, ky, e, r => by cases e
  | .d (.ob _ _), v, ky, e, r => by cases e
  | .d (.dk _ _), v, ky, e, r => by cases e
  | .d (.fn _), v, ky, e, r => by cases e
  | .d (.ty _), v, ky, e, r => by cases e
/-- what the keys ks hold at ky, the values ds -/
def kget (ks : List Key) (ds : List D) (ky : Key) : Option D := ((ks.zip ds).find? fun p => decide (p.1 = ky)).map (·.2)
def hasK (ks : List Key) (ky : Key) : Bool := ks.any fun k => decide (k = ky)
def kputK (ks : List Key) (ky : Key) : List Key := if hasK ks ky = true then ks else ks ++ [ky]
def kputV {α : Type} (ks : List Key) (vs : List α) (ky : Key) (v : α) : List α := if hasK ks ky = true then List.zipWith (fun k x => if k = ky then v else x) ks vs else vs ++ [v]
theorem valV_reps {W : Wd} {S : Addr → Prop} {H : Hp} {ky : Key} : ∀ {ks : List Key} {ds : List D} {vs : List V}, vs.length = ks.length → Reps W S H ds vs → match kget ks ds ky with
    | some d => ∃ v, valV (ks.zip vs) ky = some v ∧ Rep W S H d v
    | none => valV (ks.zip vs) ky = none
  | [], ds, vs, hl, r => by simp [kget, valV]
  | k :: ks, [], vs, hl, r => by rw [show vs = [] from r] at hl; simp at hl
  | k :: ks, d :: ds, vs, hl, r => by
    obtain ⟨v, r2, e, h1, t⟩ := (show ∃ v r, vs = v :: r ∧ Rep W S H d v ∧ Reps W S H ds r from r)
    subst e
    have ih := valV_reps (ky := ky) (ks := ks) (by simpa using hl) t
    by_cases hk : k = ky
    · have e1 : kget (k :: ks) (d :: ds) ky = some d := by simp [kget, hk]
      rw [e1]
      exact ⟨v, valV_pos (p := (k, v)) hk, h1⟩
    · have e1 : kget (k :: ks) (d :: ds) ky = kget ks ds ky := by simp [kget, hk]
      rw [e1, List.zip_cons_cons, valV_neg (p := (k, v)) hk]
      exact ih
theorem op_inD {X : Cx} (hu : X.A.units + 1 < cLine) : OpR X (compareOp .In) (fun x y H Q => ∃ a o, y = .ref a ∧ DGet H a x o ∧ Q (.bl o.isSome) H) := by
  intro pins s σ H x y v u Q I rx ry h
  obtain ⟨a, o, rfl, g, q⟩ := h
  cases ry
  exact d_in hu I g rx fun s' I' => ⟨.bl o.isSome, H, I', rfl, q⟩
theorem op_notinD {X : Cx} (hu : X.A.units + 1 < cLine) : OpR X (compareOp .NotIn) (fun x y H Q => ∃ a o, y = .ref a ∧ DGet H a x o ∧ Q (.bl (!o.isSome)) H) := by
  intro pins s σ H x y v u Q I rx ry h
  obtain ⟨a, o, rfl, g, q⟩ := h
  cases ry
  exact d_notIn hu I g rx fun s' I' => ⟨.bl (!o.isSome), H, I', rfl, q⟩
/-- a dict, of the store or frozen -/
def dictOf (M : Mm) : AV → Option (List Key × List D)
  | .d (.dk ks ds) => some (ks, ds)
  | .m k => match M[k]? with
    | some (.k ks ds) => some (ks, ds)
    | _ => none
  | _ => none
theorem dict_rep {S : Addr → Prop} {α : Als} {H : Hp} (em : EM C.W S α M H) : ∀ {a : AV} {v : V} {ks : List Key} {ds : List D}, dictOf M a = some (ks, ds) → RepA C.W S α H a v → ∃ p vs, v = .ref p ∧ H p = some (.dK (ks.zip vs)) ∧ vs.length = ks.length ∧ Reps C.W (Av S α) H ds vs
  | .d (.dk ks' es), v, ks, ds, e, r => by
    obtain ⟨a, vs, e1, n, t, l, rr⟩ := (show ∃ a vs, v = .ref a ∧ ¬ Av S α a ∧ H a = some (.dK (ks'.zip vs)) ∧ vs.length = ks'.length ∧ Reps C.W (Av S α) H es vs from r)
    cases e
    exact ⟨a, vs, e1, t, l, rr⟩
  | .m k, v, ks, ds, e, r => by
    cases q : M[k]? with
    | none => simp [dictOf, q] at e
    | some m =>
      cases m with
      | k ks' es =>
        simp [dictOf, q] at e
        obtain ⟨rfl, rfl⟩ := e
        obtain ⟨p, vs, e, ha, hh, hz, rr⟩ := cell_k em q r
        exact ⟨p, vs, e, hh, hz, rr⟩
      | l _ => simp [dictOf, q] at e
      | o _ _ => simp [dictOf, q] at e
      | dead => simp [dictOf, q] at e
  | .d .non, v, _, _, e, r => by cases e
  | .d (.bl _), v, _, _, e, r => by cases e
  | .d (.int _), v, _, _, e, r => by cases e
  | .d (.str _), v, _, _, e, r => by cases e
  | .d (.fn _), v, _, _, e, r => by cases e
  | .d (.ty _), v, _, _, e, r => by cases e
  | .d (.ob _ _), v, _, _, e, r => by cases e
  | .d (.tup _), v, _, _, e, r => by cases e
  | .d (.tw _), v, _, _, e, r => by cases e
  | .d (.lst _), v, _, _, e, r => by cases e
theorem dget_of {S : Addr → Prop} {α : Als} {H : Hp} {p : Addr} {ks : List Key} {ds : List D} {vs : List V} {ky : Key} (hh : H p = some (.dK (ks.zip vs))) (hl : vs.length = ks.length) (rr : Reps C.W (Av S α) H ds vs) :
    match kget ks ds ky with
    | some d => ∃ v, DGet H p (kV ky) (some v) ∧ Rep C.W (Av S α) H d v
    | none => DGet H p (kV ky) none := by
  have z := valV_reps (ky := ky) hl rr
  have g := DGet.k (k := ky) hh
  cases q : kget ks ds ky with
  | some d => rw [q] at z; obtain ⟨v, h1, h2⟩ := z; rw [h1] at g; exact ⟨v, g, h2⟩
  | none => rw [q] at z; have z' : valV (ks.zip vs) ky = none := z; rw [z'] at g; exact g
theorem Cok.hu (ok : Cok C P w K mg base N gs Vi Li k) : C.X.A.units + 1 < cLine := hu_of ok.room
theorem wo_inD (ok : Cok C P w K mg base N gs Vi Li k) {x y : AV} {ks : List Key} {ds : List D} {ky : Key} (hx : keyOf x = some ky) (hy : dictOf M y = some (ks, ds)) (h : Ψ (.d (.bl (kget ks ds ky).isSome)) M) : WO C (compareOp .In) x y M Ψ := by
  refine ⟨fun S α H Q v u em r1 r2 q => ?_⟩
  obtain ⟨p, vs, e, hh, hl, rr⟩ := dict_rep em hy r2
  have z := dget_of (ky := ky) hh hl rr
  have ek := keyOf_ok hx r1
  refine uO_of (op_inD ok.hu) ?_
  rw [e, ek]
  cases qq : kget ks ds ky with
  | some d =>
    rw [qq] at z h
    obtain ⟨v', g, _⟩ := z
    exact ⟨p, some v', rfl, g, stayE (a := .d (.bl true)) (v := .bl true) em q rfl h⟩
  | none =>
    rw [qq] at z h
    exact ⟨p, none, rfl, z, stayE (a := .d (.bl false)) (v := .bl false) em q rfl h⟩
theorem wo_notinD (ok : Cok C P w K mg base N gs Vi Li k) {x y : AV} {ks : List Key} {ds : List D} {ky : Key} (hx : keyOf x = some ky) (hy : dictOf M y = some (ks, ds)) (h : Ψ (.d (.bl (!(kget ks ds ky).isSome))) M) : WO C (compareOp .NotIn) x y M Ψ := by
  refine ⟨fun S α H Q v u em r1 r2 q => ?_⟩
  obtain ⟨p, vs, e, hh, hl, rr⟩ := dict_rep em hy r2
  have z := dget_of (ky := ky) hh hl rr
  have ek := keyOf_ok hx r1
  refine uO_of (op_notinD ok.hu) ?_
  rw [e, ek]
  cases qq : kget ks ds ky with
  | some d =>
    rw [qq] at z h
    obtain ⟨v', g, _⟩ := z
    exact ⟨p, some v', rfl, g, stayE (a := .d (.bl false)) (v := .bl false) em q rfl h⟩
  | none =>
    rw [qq] at z h
    exact ⟨p, none, rfl, z, stayE (a := .d (.bl true)) (v := .bl true) em q rfl h⟩
/-- d[y] -/
theorem wi_dict (ok : Cok C P w K mg base N gs Vi Li k) {x y : AV} {ks : List Key} {ds : List D} {ky : Key} {d : D} (hx : dictOf M x = some (ks, ds)) (hy : keyOf y = some ky) (hd : kget ks ds ky = some d) (h : Ψ (.d d) M) : WI C x y M Ψ := by
  refine ⟨fun S α H Q v u em r1 r2 q => ?_⟩
  obtain ⟨p, vs, e, hh, hl, rr⟩ := dict_rep em hx r1
  have z := dget_of (ky := ky) hh hl rr
  rw [hd] at z
  obtain ⟨v', g, r⟩ := z
  have ek := keyOf_ok hy r2
  intro value slice pins s σ vv uu I rv ru hs
  subst e; subst ek
  cases rv
  refine PyProof.Rows.tail_any (dict_typeIs I g) PySem.F.slot_dict_getitem.lookup ?_ hs
  exact d_getItem ok.hu I g ru fun w' s3 I3 rw' => ⟨v', H, I3, rw', stayE (a := .d d) em q r h⟩
theorem any_zip {ky : Key} : ∀ {ks : List Key} {vs : List V}, vs.length = ks.length → ((ks.zip vs).any fun kv => decide (kv.1 = ky)) = hasK ks ky
  | [], vs, h => rfl
  | k :: ks, [], h => by simp at h
  | k :: ks, v :: vs, h => by
    rw [List.zip_cons_cons, List.any_cons, any_zip (ks := ks) (by simpa using h)]
    rfl
theorem map_zip {ky : Key} {v : V} : ∀ {ks : List Key} {vs : List V}, vs.length = ks.length → ((ks.zip vs).map fun kv => if kv.1 = ky then (kv.1, v) else kv) = ks.zip (List.zipWith (fun k x => if k = ky then v else x) ks vs)
  | [], vs, h => rfl
  | k :: ks, [], h => by simp at h
  | k :: ks, x :: vs, h => by
    rw [List.zip_cons_cons, List.map_cons, map_zip (ks := ks) (by simpa using h), List.zipWith_cons_cons, List.zip_cons_cons]
    by_cases e : k = ky
    · rw [if_pos e, if_pos e]
    · rw [if_neg e, if_neg e]
theorem kput_zip {ky : Key} {v : V} {ks : List Key} {vs : List V} (h : vs.length = ks.length) : putK (ks.zip vs) ky v = (kputK ks ky).zip (kputV ks vs ky v) ∧ (kputV ks vs ky v).length = (kputK ks ky).length := by
  unfold putK kputK kputV
  rw [any_zip h]
  cases hasK ks ky with
  | true => simp only [if_true]; exact ⟨map_zip h, by simp [h]⟩
  | false =>
    simp only [Bool.false_eq_true, if_false]
    exact ⟨by rw [List.zip_append h.symm]; rfl, by simp [h]⟩
theorem reps_zipWith {W : Wd} {S : Addr → Prop} {H : Hp} {ky : Key} {d : D} {v : V} (hd : Rep W S H d v) : ∀ {ks : List Key} {ds : List D} {vs : List V}, Reps W S H ds vs → Reps W S H (List.zipWith (fun k x => if k = ky then d else x) ks ds) (List.zipWith (fun k x => if k = ky then v else x) ks vs)
  | [], ds, vs, r => by simp; exact rfl
  | k :: ks, [], vs, r => by rw [show vs = [] from r]; simp; exact rfl
  | k :: ks, e :: ds, vs, r => by
    obtain ⟨u, r2, eq, h1, t⟩ := (show ∃ v r, vs = v :: r ∧ Rep W S H e v ∧ Reps W S H ds r from r)
    subst eq
    rw [List.zipWith_cons_cons, List.zipWith_cons_cons]
    by_cases q : k = ky
    · rw [if_pos q, if_pos q]; exact reps_cons hd (reps_zipWith hd t)
    · rw [if_neg q, if_neg q]; exact reps_cons h1 (reps_zipWith hd t)
theorem reps_kput {W : Wd} {S : Addr → Prop} {H : Hp} {ky : Key} {d : D} {v : V} {ks : List Key} {ds : List D} {vs : List V} (hd : Rep W S H d v) (r : Reps W S H ds vs) : Reps W S H (kputV ks ds ky d) (kputV ks vs ky v) := by
  unfold kputV
  cases hasK ks ky with
  | true => simp only [if_true]; exact reps_zipWith hd r
  | false => simp only [Bool.false_eq_true, if_false]; exact reps_app r (reps_cons hd reps_nil)
/-- d[y] = z, d a dict of the store -/
theorem wset_k (ok : Cok C P w K mg base N gs Vi Li k) {j : Nat} {ks : List Key} {ds : List D} {y : AV} {ky : Key} {z : D} {R : Mm → Prop} (hk : M[j]? = some (.k ks ds)) (hy : keyOf y = some ky) (hlen : ks.length < 1000000) (h : R (M.set j (.k (kputK ks ky) (kputV ks ds ky z)))) : WSet C (.m j) y (.d z) M R := by
  refine ⟨fun S α H Q xv yv zv em r1 r2 r3 q pins s σ ov iv u I ro ri rv => ?_⟩
  obtain ⟨p, vs, e, ha, hh, hl, rr⟩ := cell_k em hk r1
  have ek := keyOf_ok hy r2
  obtain ⟨e1, e2⟩ := kput_zip (ky := ky) (v := zv) hl
  have g := DPut.k (k := ky) (v := zv) hh (by rw [List.length_zip, sizeLine_eq]; omega)
  rw [e1] at g
  refine set_dict ok.hu pins s σ H xv yv zv ov iv u _ I ro ri rv ⟨p, _, e, by rw [ek]; exact g, ?_⟩
  obtain ⟨em', g'⟩ := em.put (o := .dK ((kputK ks ky).zip (kputV ks vs ky zv))) (m' := .k (kputK ks ky) (kputV ks ds ky z)) ha ⟨p, _, rfl, upd_same, e2, reps_put ha (reps_kput r3 rr)⟩
  exact q _ _ h em' g'
theorem we_dnew {ρ : Rho} {pos : Pos} (h : Ψ (.m M.length) (M ++ [.k [] []])) : WE C (.Dict [] [] pos) ρ M Ψ := by
  refine ⟨fun S α0 H0 α σ H Q bs g ev q => uE_of pe_dnewK fun p hp => ?_⟩
  exact newM (m := .k [] []) ev.em q hp ⟨p, [], rfl, upd_same, rfl, rfl⟩ h
theorem call_lenDU {X : Cx} : CallR X (.builtin "len") (fun xs H Q => ∃ p kvs, xs = [.ref p] ∧ H p = some (.dK kvs) ∧ Q (.int kvs.length) H) := by
  intro pins s σ H xs us Q I r h
  obtain ⟨p, kvs, rfl, hh, q⟩ := h
  obtain ⟨u, rfl, r1⟩ := vals1 r
  cases r1
  exact d_len I (.inl hh) fun t s' I' => ⟨.int kvs.length, H, I', ⟨_, rfl⟩, q⟩
theorem wc_lenD {a : AV} {ks : List Key} {ds : List D} (hs : dictOf M a = some (ks, ds)) (h : Ψ (.d (.int ks.length)) M) : WC C (.builtin "len") [a] M Ψ :=
  ⟨fun S α H Q vs em r q => by
    obtain ⟨v, e, h1⟩ := reps1 r
    obtain ⟨p, us, e2, hh, hl, rr⟩ := dict_rep em hs h1
    refine uC_of call_lenDU ⟨p, _, by rw [e, e2], hh, ?_⟩
    rw [List.length_zip, hl, Nat.min_self]
    exact stayE (a := .d (.int ks.length)) (v := .int ks.length) em q rfl h⟩

/-! ### a try whose body raises nothing -/
abbrev Ctx.quiet (C : Ctx) : Ctx := { C with X := C.X.nox, T := fun _ _ _ _ => False }
theorem Cok.quiet (ok : Cok C P w K mg base N gs Vi Li k) : Cok C.quiet P w K mg base N gs Vi Li k :=
  ⟨ok.prog, ok.wE, ok.kE, ok.mgE, ok.baseE, ok.WK, ok.nE, ok.nd, ok.vis, ok.loc, ok.gl, ok.calm, ok.room⟩
theorem Bs.quiet {S : Addr → Prop} {α0 : Als} {H0 : Hp} (bs : Bs C S α0 H0) : Bs C.quiet S α0 H0 :=
  ⟨bs.len, bs.trk, fun _ _ _ _ => False, (fun _ _ ⟨_, _, _, _, _, _, _, _, _, _, _, _, _, _, _, _, z⟩ => z.elim), fun _ _ _ _ _ _ _ _ _ z => z.elim⟩
theorem w1_thru {body : List Stmt} {h₀ : ExceptHandler} {hs : List ExceptHandler} {ρ : Rho} {Φ : Kn} {pos : Pos} (h : WS C.quiet body ρ M Φ) : W1 C (.Try body (h₀ :: hs) [] [] pos) ρ M Φ := by
  refine ⟨fun S α0 H0 α σ H D bs g ev f => uS_of (ps_try_thru0 (X := C.X) pss_u) ?_⟩
  exact h.run S α0 H0 α σ H D bs.quiet g ev ⟨f.nx, f.rt, f.bk, f.ct⟩
end
end Dl

/-! DLA: bundles of facts for a def's body, and the walk's own words. -/
namespace Dl
open PySem L2

section
variable {P : Program} {w : World} {K : PySem.W.Frag} {mg : Str → Option Value} {base : Heap} {N gs ps : List Str} {Vi Li : List Nat} {k : Nat}
variable {C : Ctx} {e e2 a b c o : Expr} {es : List Expr} {st : Stmt} {sts : List Stmt} {ρ : Rho} {M : Mm} {Φ : Kn} {Ψ : AV → Mm → Prop} {x : Str} {pos p pos' : Pos}
/-- a built-in function, a built-in class, by the name x -/
structure Bk (X : Cx) (x : Str) (id : String) : Prop where
  gl : Gl X x
  mg : X.mg x = none
  bt : bootBuiltins x = some (.builtin id)
  n1 : x ≠ "__name__"
  n2 : (x == ("__debug__" : Str)) = false
structure Bt (X : Cx) (x : Str) (id : String) : Prop where
  gl : Gl X x
  mg : X.mg x = none
  bt : bootBuiltins x = some (.type id)
  n1 : x ≠ "__name__"
  n2 : (x == ("__debug__" : Str)) = false
/-- a def of the text by the name x -/
structure Fc (X : Cx) (W : Wd) (x : Str) (n0 : Nat) (dsp : DSp) : Prop where
  gl : Gl X x
  ex : ∃ f fd ps k, FnOk X.prog X.w X.K X.mg X.base (L2.CX X.prog X.w) k f fd ps (spOf W n0 dsp) ∧ Room k X.A ∧ X.mg x = some (.ref f) ∧ PySem.W.keepIn X.K (.ref f) = true ∧ Binds X.K fd ps []
  n2 : (x == ("__debug__" : Str)) = false
/-- a class of the text by the name x -/
structure Cc (X : Cx) (W : Wd) (x : Str) (c : Nat) (dsp : DSp) : Prop where
  gl : Gl X x
  ex : ∃ f fd ps k, FnOk X.prog X.w X.K X.mg X.base (L2.CX X.prog X.w) k f fd ps (spOf W 1 dsp) ∧ Room (k + 1) X.A ∧ X.mg x = some (.ref (W.ca c)) ∧ Mk X.K (W.ca c) f ∧ Binds X.K fd ps []
  n2 : (x == ("__debug__" : Str)) = false
theorem Cok.bk (ok : Cok C P w K mg base N gs Vi Li k) (i : Nat) {id : String} (hN : gs[i]? = some x) (hm : mg x = none) (hv : bootBuiltins x = some (.builtin id)) (n1 : x ≠ "__name__") (n2 : (x == ("__debug__" : Str)) = false) : Bk C.X x id :=
  ⟨ok.gl i x hN, by rw [ok.mgE]; exact hm, hv, n1, n2⟩
theorem Cok.bt (ok : Cok C P w K mg base N gs Vi Li k) (i : Nat) {id : String} (hN : gs[i]? = some x) (hm : mg x = none) (hv : bootBuiltins x = some (.type id)) (n1 : x ≠ "__name__") (n2 : (x == ("__debug__" : Str)) = false) : Bt C.X x id :=
  ⟨ok.gl i x hN, by rw [ok.mgE]; exact hm, hv, n1, n2⟩
theorem Cok.fc {n0 k' : Nat} {dsp : DSp} (ok : Cok C P w K mg base N gs Vi Li k) (i : Nat) (hN : gs[i]? = some x) (F : Fk P w K mg base C.W x ps n0 dsp k') (hk : k' ≤ k) (n2 : (x == ("__debug__" : Str)) = false) : Fc C.X C.W x n0 dsp := by
  obtain ⟨f, fd, FO, hm, hkp, hb⟩ := F.ex
  refine ⟨ok.gl i x hN, ⟨f, fd, ps, k', ?_, ok.room.mono hk, by rw [ok.mgE]; exact hm, by rw [ok.kE]; exact hkp, by rw [ok.kE]; exact hb⟩, n2⟩
  rw [ok.prog, ok.wE, ok.kE, ok.mgE, ok.baseE]; exact FO
theorem Cok.cc {c k' : Nat} {dsp : DSp} (ok : Cok C P w K mg base N gs Vi Li k) (i : Nat) (hN : gs[i]? = some x) (F : Ck P w K mg base C.W x c ps dsp k') (hk : k' + 1 ≤ k) (n2 : (x == ("__debug__" : Str)) = false) : Cc C.X C.W x c dsp := by
  obtain ⟨f, fd, FO, hm, mk, hb⟩ := F.ex
  refine ⟨ok.gl i x hN, ⟨f, fd, ps, k', ?_, ok.room.mono hk, by rw [ok.mgE]; exact hm, by rw [ok.kE]; exact mk, by rw [ok.kE]; exact hb⟩, n2⟩
  rw [ok.prog, ok.wE, ok.kE, ok.mgE, ok.baseE]; exact FO
theorem we_b {id : String} (B : Bk C.X x id) (h : WA C (e :: es) ρ M fun as M1 => WC C (.builtin id) as M1 Ψ)
    (he : starEach (e :: es) C.X.env = (false, eval e C.X.env) :: starEach es C.X.env := by rfl) (hpl : (backTo pos (starEach es C.X.env)).any (·.1) = false := by rfl) : WE C (.Call (.Name x p) (e :: es) [] pos) ρ M Ψ := by
  refine ⟨fun S α0 H0 α σ H Q bs g ev q => uE_of (pe_callB call_u B.gl B.mg B.bt pa_u B.n1 B.n2 he hpl) ?_⟩
  refine h.run S α0 H0 α σ H _ bs g ev fun as M1 β1 vs H1 p1 em1 g1 r1 => ?_
  exact p1.run S _ H1 Q vs em1 r1 (thnE q g1)
theorem we_t {id : String} (B : Bt C.X x id) (h : WA C (e :: es) ρ M fun as M1 => WC C (.type id) as M1 Ψ)
    (he : starEach (e :: es) C.X.env = (false, eval e C.X.env) :: starEach es C.X.env := by rfl) (hpl : (backTo pos (starEach es C.X.env)).any (·.1) = false := by rfl) : WE C (.Call (.Name x p) (e :: es) [] pos) ρ M Ψ := by
  refine ⟨fun S α0 H0 α σ H Q bs g ev q => uE_of (pe_callTy call_u B.gl B.mg B.bt pa_u B.n1 B.n2 he hpl) ?_⟩
  refine h.run S α0 H0 α σ H _ bs g ev fun as M1 β1 vs H1 p1 em1 g1 r1 => ?_
  exact p1.run S _ H1 Q vs em1 r1 (thnE q g1)
theorem we_tyv {id : String} (B : Bt C.X x id) (h : Ψ (.d (.ty id)) M) : WE C (.Name x pos) ρ M Ψ :=
  ⟨fun S α0 H0 α σ H Q b g ev q => uE_of (pe_bltn (v := .ty id) B.gl B.mg B.bt rfl B.n1 B.n2) (stayE (a := .d (.ty id)) (v := .ty id) ev.em q rfl h)⟩
theorem we_clsv {c : Nat} {dsp : DSp} (B : Cc C.X C.W x c dsp) (h : Ψ (.d (.fn (C.W.ca c))) M) : WE C (.Name x pos) ρ M Ψ := by
  obtain ⟨f, fd, ps, k, _, _, hm, _⟩ := B.ex
  exact ⟨fun S α0 H0 α σ H Q b g ev q => uE_of (pe_glob (v := .ref (C.W.ca c)) B.gl hm rfl B.n2) (stayE (a := .d (.fn (C.W.ca c))) (v := .ref (C.W.ca c)) ev.em q rfl h)⟩
/-- f(..), by what is handed of the store: nothing, the j-th thing -/
theorem we_f {dsp : DSp} (F : Fc C.X C.W x 0 dsp) (h : WA C (e :: es) ρ M fun as M1 => allD as fun _ => call0 C ρ dsp as M1 Ψ)
    (he : starEach (e :: es) C.X.env = (false, eval e C.X.env) :: starEach es C.X.env := by rfl) (hpl : (backTo pos (starEach es C.X.env)).any (·.1) = false := by rfl) :
    WE C (.Call (.Name x p) (e :: es) [] pos) ρ M Ψ := by
  obtain ⟨f, fd, ps, k, FO, hr, hm, hkp, hb⟩ := F.ex
  refine ⟨fun S α0 H0 α σ H Q bs g ev q => ?_⟩
  obtain ⟨Wx, tk, ht⟩ := bs.tk
  refine uE_of (pe_callS FO hr F.gl hm hkp hb (passAt tk) pa_u F.n2 he hpl) ?_
  refine h.run S α0 H0 α σ H _ bs g ev fun as M1 β1 vs H1 p1 em1 g1 r1 => ?_
  obtain ⟨ds, hu, hc⟩ := unD_of_allD p1
  exact spO0 (g.trans g1) (ev.up g1 em1) ht hu r1 (thnE q g1) hc
theorem we_f1 {dsp : DSp} (j : Nat) (F : Fc C.X C.W x 1 dsp) (h : WA C (e :: es) ρ M fun as M1 => only1 j as = true ∧ call1 C ρ j dsp as M1 Ψ)
    (he : starEach (e :: es) C.X.env = (false, eval e C.X.env) :: starEach es C.X.env := by rfl) (hpl : (backTo pos (starEach es C.X.env)).any (·.1) = false := by rfl) :
    WE C (.Call (.Name x p) (e :: es) [] pos) ρ M Ψ := by
  obtain ⟨f, fd, ps, k, FO, hr, hm, hkp, hb⟩ := F.ex
  refine ⟨fun S α0 H0 α σ H Q bs g ev q => ?_⟩
  obtain ⟨Wx, tk, ht⟩ := bs.tk
  refine uE_of (pe_callS FO hr F.gl hm hkp hb (passAt tk) pa_u F.n2 he hpl) ?_
  refine h.run S α0 H0 α σ H _ bs g ev fun as M1 β1 vs H1 p1 em1 g1 r1 => ?_
  exact spO1 (g.trans g1) (ev.up g1 em1) ht p1.1 r1 (thnE q g1) p1.2
/-- a made thing, as data; own equality -/
def callC (C : Ctx) (ρ : Rho) (c : Nat) (dsp : DSp) (as : List AV) (M1 : Mm) (Ψ : AV → Mm → Prop) : Prop :=
  dsp (.m 0 :: as) [.o c []] (fun a M' => ∃ ds, M' = [.o c ds] ∧ a = .d .non ∧ ds.length = (C.W.cf c).length ∧ Ψ (.d (.ob c ds)) M1) (fun cl ds _ => C.T cl ds ρ M1)
def callE (dsp : DSp) (as : List AV) (M : Mm) (Ψ : AV → Mm → Prop) : Prop := dsp as [] (fun a M' => M' = [] ∧ isB a fun t => Ψ (.d (.bl t)) M) (fun _ _ _ => False)
theorem wo_e {c k' : Nat} {dsp : DSp} {ds es : List D} (ok : Cok C P w K mg base N gs Vi Li k) (F : Eqk P w K mg base C.W c ps dsp k') (hk : Nat.ble k' k = true)
    (h : callE dsp [.d (.ob c ds), .d (.ob c es)] M Ψ) : WO C (compareOp .Eq) (.d (.ob c ds)) (.d (.ob c es)) M Ψ := wo_eqO ok F (Nat.le_of_ble_eq_true hk) h
theorem we_c {c : Nat} {dsp : DSp} (F : Cc C.X C.W x c dsp)
    (h : WA C (e :: es) ρ M fun as M1 => allD as fun _ => callC C ρ c dsp as M1 Ψ)
    (he : starEach (e :: es) C.X.env = (false, eval e C.X.env) :: starEach es C.X.env := by rfl) (hpl : (backTo pos (starEach es C.X.env)).any (·.1) = false := by rfl) :
    WE C (.Call (.Name x p) (e :: es) [] pos) ρ M Ψ := by
  obtain ⟨f, fd, ps, k, FO, hr, hm, mk, hb⟩ := F.ex
  exact we_makeC mk FO hr F.gl hm hb h F.n2 he hpl

/-- a local name: seen, stored to -/
structure Lv (X : Cx) (x : Str) (i : Nat) : Prop where
  nm : X.N[i]? = some x
  vis : Vis X.env.scope x
  d1 : (x == ("__debug__" : Str)) = false
  d2 : (x == ("__classdict__" : Str)) = false
structure Ls (X : Cx) (x : Str) (i : Nat) : Prop where
  nm : X.N[i]? = some x
  nd : X.N.Nodup
  loc : Loc X.env.scope x ∧ (X.fn x = true ∨ X.env.scope.names.lookup x = some .local)
/-- a number, a text by a name of the module -/
structure Gi (X : Cx) (x : Str) (n : Int) : Prop where
  gl : Gl X x
  ex : ∃ t, X.mg x = some (.int n t)
  n2 : (x == ("__debug__" : Str)) = false
structure Gs (X : Cx) (x : Str) (n : Str) : Prop where
  gl : Gl X x
  ex : ∃ t, X.mg x = some (.str n t)
  n2 : (x == ("__debug__" : Str)) = false
theorem Cok.lv (ok : Cok C P w K mg base N gs Vi Li k) (i : Nat) (hN : N[i]? = some x) (hV : i ∈ Vi) (d1 : (x == ("__debug__" : Str)) = false) (d2 : (x == ("__classdict__" : Str)) = false) : Lv C.X x i :=
  ⟨by rw [ok.nE]; exact hN, ok.vis i x hV hN, d1, d2⟩
theorem Cok.ls (ok : Cok C P w K mg base N gs Vi Li k) (i : Nat) (hN : N[i]? = some x) (hV : i ∈ Li) : Ls C.X x i :=
  ⟨by rw [ok.nE]; exact hN, by rw [ok.nE]; exact ok.nd, ok.loc i x hV hN⟩
theorem Cok.gi (ok : Cok C P w K mg base N gs Vi Li k) (i : Nat) {n : Int} (hN : gs[i]? = some x) (hm : ∃ t, mg x = some (.int n t)) (d1 : (x == ("__debug__" : Str)) = false) : Gi C.X x n :=
  ⟨ok.gl i x hN, by rw [ok.mgE]; exact hm, d1⟩
theorem Cok.gs' (ok : Cok C P w K mg base N gs Vi Li k) (i : Nat) {n : Str} (hN : gs[i]? = some x) (hm : ∃ t, mg x = some (.str n t)) (d1 : (x == ("__debug__" : Str)) = false) : Gs C.X x n :=
  ⟨ok.gl i x hN, by rw [ok.mgE]; exact hm, d1⟩
theorem we_v {i : Nat} {v : AV} (B : Lv C.X x i) (hρ : ρ[i]? = some (some v)) (h : Ψ v M) : WE C (.Name x pos) ρ M Ψ := by
  refine ⟨fun S α0 H0 α σ H Q b g ev q => uE_of (pe_var (i := i) B.nm B.vis B.d1 B.d2) ?_⟩
  obtain ⟨u, h1, h2⟩ := ev.sl i v hρ
  exact ⟨u, h1, stayE ev.em q h2 h⟩
theorem we_gi {n : Int} (B : Gi C.X x n) (h : Ψ (.d (.int n)) M) : WE C (.Name x pos) ρ M Ψ := by
  obtain ⟨t, hm⟩ := B.ex
  exact ⟨fun S α0 H0 α σ H Q b g ev q => uE_of (pe_glob (v := .int n) B.gl hm ⟨t, rfl⟩ B.n2) (stayE (a := .d (.int n)) (v := .int n) ev.em q rfl h)⟩
theorem we_gs {n : Str} (B : Gs C.X x n) (h : Ψ (.d (.str n)) M) : WE C (.Name x pos) ρ M Ψ := by
  obtain ⟨t, hm⟩ := B.ex
  exact ⟨fun S α0 H0 α σ H Q b g ev q => uE_of (pe_glob (v := .str n) B.gl hm ⟨t, rfl⟩ B.n2) (stayE (a := .d (.str n)) (v := .str n) ev.em q rfl h)⟩
theorem w1_s {i : Nat} {pos' : Pos} (B : Ls C.X x i) (h : WE C e ρ M fun v M' => Nrm (ρ.set i (some v)) M' Φ.nx)
    (hs : swapsWith e (some (.Name x pos')) pos.line C.X.env = pure false := by rfl) : W1 C (.Assign [.Name x pos'] e pos) ρ M Φ := by
  refine ⟨fun S α0 H0 α σ H D bs g ev f => uS_of (ps_set (i := i) B.nd B.nm B.loc.1 pe_u hs B.loc.2) ?_⟩
  show uE C.X e σ H fun u H1 => D.nx (σ.set i (some u)) H1
  refine h.run S α0 H0 α σ H _ bs g ev fun v M1 β u H1 p1 em1 g1 r1 => ?_
  exact f.nx _ M1 (α ++ β) _ H1 p1.out ((ev.up g1 em1).set i r1) (g.trans g1)
theorem w1_p {i j : Nat} {y : Str} {px py pt pt2 : Pos} {kt k2 : Nat} (hc : C.X.calm = true) (B1 : Ls C.X x i) (B2 : Ls C.X y j) (hij : i ≠ j)
    (hx : C.X.env.scope.names.lookup x = some .local) (hy : C.X.env.scope.names.lookup y = some .local)
    (h : WA C [a, b] ρ M fun as M' => ∃ u v, as = [u, v] ∧ Nrm ((ρ.set i (some u)).set j (some v)) M' Φ.nx)
    (hw : swappedStores [.Tuple [.Name x px, .Name y py] kt pt] (.Tuple [a, b] k2 pt2) C.X.env = pure (some [x, y]))
    (hs : swapsWithSole [.Tuple [.Name x px, .Name y py] kt pt] (.Tuple [a, b] k2 pt2) pos.line C.X.env = pure false := by rfl) :
    W1 C (.Assign [.Tuple [.Name x px, .Name y py] kt pt] (.Tuple [a, b] k2 pt2) pos) ρ M Φ := by
  refine ⟨fun S α0 H0 α σ H D bs g ev f => uS_of (ps_par hc B1.nd B1.nm B2.nm hij hx hy pa_u hw hs) ?_⟩
  refine h.run S α0 H0 α σ H _ bs g ev fun as M1 β vs H1 p1 em1 g1 r1 => ?_
  obtain ⟨u, v, e, p1⟩ := p1
  subst e
  obtain ⟨u', v', e, h1, h2⟩ := reps2 r1
  exact ⟨u', v', e, f.nx _ M1 (α ++ β) _ H1 p1.out (((ev.up g1 em1).set i h1).set j h2) (g.trans g1)⟩
theorem wg_n {i : Nat} {v : AV} {Ψ : Rho → Mm → Prop} (B : Ls C.X x i) (h : Nrm (ρ.set i (some v)) M Ψ) : WG C (.Name x pos) v ρ M Ψ := by
  refine ⟨fun S α σ H Q u ev r q => ?_⟩
  refine uG_of (pg_name (i := i) B.nd B.nm B.loc.1 B.loc.2) ?_
  have z := q _ M [] _ H h.out (by rw [app_nil]; exact ev.set i r) Gr.refl
  exact z
/-- joins, branches -/
theorem ws_join (J : Rho → Mm → Prop) (h : W1 C st ρ M { Φ with nx := J }) (h2 : ∀ ρ' M', J ρ' M' → WS C sts ρ' M' Φ) : WS C (st :: sts) ρ M Φ :=
  ws_cons ⟨fun S α0 H0 α σ H D bs g ev f => h.run S α0 H0 α σ H D bs g ev ⟨fun ρ' M' α' σ' H' p ev' g' => f.nx ρ' M' α' σ' H' (h2 ρ' M' p) ev' g', f.rt, f.bk, f.ct⟩⟩
theorem isB_i {t : Bool} {R : Bool → Prop} (h : R t) : isB (.d (.bl t)) R := h
theorem spl2 {t : Bool} {A B : Prop} (h1 : t = false → A) (h2 : t = true → B) : (t = false → A) ∧ (t = true → B) := ⟨h1, h2⟩
theorem spl2' {t : Bool} {A B : Prop} (h1 : t = true → A) (h2 : t = false → B) : (t = true → A) ∧ (t = false → B) := ⟨h1, h2⟩
theorem allD_i {as : List AV} {ds : List D} {R : List D → Prop} (e : unD as = some ds) (h : R ds) : allD as R := by
  unfold allD; rw [e]; exact h
theorem clo_d {x : D} {n : Nat} {R : AV → Mm → Prop} (h : R (.d x) (M.take n)) : Clo n (.d x) M R := h
theorem clo_m {j n : Nat} {R : AV → Mm → Prop} (hj : j < n) (h : R (.m j) (M.take n)) : Clo n (.m j) M R := by
  show (if j < n then R (.m j) (M.take n) else _); rw [if_pos hj]; exact h
theorem clo_l {j n : Nat} {ds : List D} {R : AV → Mm → Prop} (hj : ¬ j < n) (hm : M[j]? = some (.l ds)) (h : R (.d (.lst ds)) (M.take n)) : Clo n (.m j) M R := by
  show (if j < n then R (.m j) (M.take n) else match M[j]? with | some (.l ds) => R (.d (.lst ds)) (M.take n) | some (.k ks ds) => R (.d (.dk ks ds)) (M.take n) | _ => False)
  rw [if_neg hj, hm]; exact h
theorem clo_k {j n : Nat} {ks : List Key} {ds : List D} {R : AV → Mm → Prop} (hj : ¬ j < n) (hm : M[j]? = some (.k ks ds)) (h : R (.d (.dk ks ds)) (M.take n)) : Clo n (.m j) M R := by
  show (if j < n then R (.m j) (M.take n) else match M[j]? with | some (.l ds) => R (.d (.lst ds)) (M.take n) | some (.k ks ds) => R (.d (.dk ks ds)) (M.take n) | _ => False)
  rw [if_neg hj, hm]; exact h
end
end Dl

/-! DLB: where a def stands, a method, the shape of names. -/
namespace Dl
open PySem L2
/-- a def of the module by the name x -/
structure DefAt (K : PySem.W.Frag) (mg : Str → Option Value) (x : Str) (st : Stmt) : Prop where
  ex : ∃ f fd, Fun K x x st f fd ∧ mg x = some (.ref f)
/-- a method of the class at c -/
structure MethAt (K : PySem.W.Frag) (c : Addr) (x qual : Str) (st : Stmt) : Prop where
  ex : ∃ f fd, Fun K x qual st f fd ∧ PySem.W.findIn K (.ref c) x = some (some (.ref f)) ∧ PySem.W.isFn K (.ref f) = true
theorem defAt_of {K : PySem.W.Frag} {h : Heap} {mg : Str → Option Value} {x : Str} {st : Stmt} {f : Addr} {oc : Value} {od : Option Addr} {kV doc pm cdv ct : Value} {an : Option Addr} {osl : Array (Option Value)} (X : K.In h) (G : h.Ns mainGlobals mg)
    (a : PySem.W.nsIn K mainGlobals x = some (some (.ref f))) (l : K.lookup f = some ⟨oc, od, .func (PySem.W.fnOf x x (defArgs st) (defBody st) (defScope st) .none kV doc pm an cdv ct), osl⟩) (c : PySem.W.codeIn K cdv x = true) (k : PySem.W.keepIn K (.ref f) = true) : DefAt K mg x st :=
  ⟨f, _, fun_mk (st := st) l c k, PySem.W.mg_of X G a⟩
theorem methAt_of {K : PySem.W.Frag} {cl : Addr} {x qual : Str} {st : Stmt} {f : Addr} {oc : Value} {od : Option Addr} {kV doc pm cdv ct : Value} {an : Option Addr} {osl : Array (Option Value)}
    (a : PySem.W.findIn K (.ref cl) x = some (some (.ref f))) (l : K.lookup f = some ⟨oc, od, .func (PySem.W.fnOf x qual (defArgs st) (defBody st) (defScope st) .none kV doc pm an cdv ct), osl⟩) (c : PySem.W.codeIn K cdv qual = true) (k : PySem.W.keepIn K (.ref f) = true) (i : PySem.W.isFn K (.ref f) = true) : MethAt K cl x qual st :=
  ⟨f, _, fun_mk (st := st) l c k, a, i⟩
theorem cstI_of {K : PySem.W.Frag} {h : Heap} {mg : Str → Option Value} {x : Str} {n : Int} {v : Value} (X : K.In h) (G : h.Ns mainGlobals mg) (a : PySem.W.nsIn K mainGlobals x = some (some v)) (e : ∃ t, v = .int n t) : ∃ t, mg x = some (.int n t) := by
  obtain ⟨t, e⟩ := e
  subst e
  exact ⟨t, PySem.W.mg_of X G a⟩
theorem cstS_of {K : PySem.W.Frag} {h : Heap} {mg : Str → Option Value} {x n : Str} {v : Value} (X : K.In h) (G : h.Ns mainGlobals mg) (a : PySem.W.nsIn K mainGlobals x = some (some v)) (e : ∃ t, v = .str n t) : ∃ t, mg x = some (.str n t) := by
  obtain ⟨t, e⟩ := e
  subst e
  exact ⟨t, PySem.W.mg_of X G a⟩
/-- a look at a def's names -/
def visC (N : List Str) (sc : Scope) (Vi : List Nat) : Bool := Vi.all fun i => match N[i]? with
  | none => true
  | some y => match sc.names.lookup y with
    | some .local => true
    | some .cell => true
    | _ => false
theorem vis_of {N : List Str} {sc : Scope} {Vi : List Nat} (h : visC N sc Vi = true) (i : Nat) (y : Str) (hi : i ∈ Vi) (e : N[i]? = some y) : sc.names.lookup y = some .local ∨ sc.names.lookup y = some .cell := by
  have z := List.all_eq_true.mp h i hi
  rw [e] at z
  revert z
  dsimp only
  cases sc.names.lookup y with
  | none => intro z; cases z
  | some k => cases k <;> intro z <;> first | exact .inl rfl | exact .inr rfl | cases z
def glC (gs : List Str) (sc : Scope) : Bool := gs.all fun y => match sc.names.lookup y with
  | some .globalImplicit => true
  | _ => false
theorem gl_of {gs : List Str} {sc : Scope} (h : glC gs sc = true) (i : Nat) (y : Str) (e : gs[i]? = some y) : sc.names.lookup y = some .globalImplicit := by
  have z := List.all_eq_true.mp h y (List.mem_of_getElem? e)
  revert z
  cases sc.names.lookup y with
  | none => intro z; cases z
  | some k => cases k <;> intro z <;> first | rfl | cases z
theorem nrm_i {ρ ρ' : Rho} {M M' : Mm} {R : Rho → Mm → Prop} (e1 : ρ = ρ') (e2 : M = M') (h : R ρ' M') : Nrm ρ M R := ⟨ρ', M', e1, e2, h⟩
section
variable {C : Ctx} {e : Expr} {es : List Expr} {ρ : Rho} {M : Mm} {Φ : Kn} {Ψ : AV → Mm → Prop} {pos : Pos}
/-- the result is handed over with all that was made -/
theorem w1_retK (h : WE C e ρ M Φ.rt) : W1 C (.Return (some e) pos) ρ M Φ := by
  refine ⟨fun S α0 H0 α σ H D b g ev f => uS_of (ps_ret pe_u) ?_⟩
  show uE C.X e σ H D.rt
  refine h.run S α0 H0 α σ H _ b g ev fun a M' β v H' p e' g' r => ?_
  exact f.rt a M' _ v H' p e' (g.trans g') r
end

theorem ws_rho {C : Ctx} {sts : List Stmt} {ρ ρ' : Rho} {M : Mm} {Φ : Kn} (e : ρ = ρ') (h : WS C sts ρ' M Φ) : WS C sts ρ M Φ := by subst e; exact h
theorem par_i {i j : Nat} {u v : AV} {ρ : Rho} {M : Mm} {R : Rho → Mm → Prop} (h : Nrm ((ρ.set i (some u)).set j (some v)) M R) : ∃ u' v', [u, v] = [u', v'] ∧ Nrm ((ρ.set i (some u')).set j (some v')) M R := ⟨u, v, rfl, h⟩
theorem w1_q {C : Ctx} {a b : Expr} {ρ : Rho} {M : Mm} {Φ : Kn} {x y : Str} {pos : Pos} {i j : Nat} {px py pt pt2 : Pos} {kt k2 : Nat} {sc : Scope} (hc : C.X.calm = true) (hE : ∃ q L f cdv, C.X.env = PyProof.Rows.envOfC q sc L f cdv) (B1 : Ls C.X x i) (B2 : Ls C.X y j) (hij : i ≠ j)
    (hx : sc.names.lookup x = some .local) (hy : sc.names.lookup y = some .local)
    (h : WA C [a, b] ρ M fun as M' => ∃ u v, as = [u, v] ∧ Nrm ((ρ.set i (some u)).set j (some v)) M' Φ.nx)
    (hw : ∀ q L f cdv, swappedStores [.Tuple [.Name x px, .Name y py] kt pt] (.Tuple [a, b] k2 pt2) (PyProof.Rows.envOfC q sc L f cdv) = pure (some [x, y]))
    (hs : swapsWithSole [.Tuple [.Name x px, .Name y py] kt pt] (.Tuple [a, b] k2 pt2) pos.line C.X.env = pure false := by rfl) :
    W1 C (.Assign [.Tuple [.Name x px, .Name y py] kt pt] (.Tuple [a, b] k2 pt2) pos) ρ M Φ := by
  obtain ⟨q, L, f, cdv, e⟩ := hE
  have e2 : C.X.env.scope = sc := by rw [e]; rfl
  exact w1_p hc B1 B2 hij (by rw [e2]; exact hx) (by rw [e2]; exact hy) h (by rw [e]; exact hw q L f cdv) hs
theorem fld_a {ρ : Rho} {M : Mm} {R : Rho → Mm → Prop} {j c i n : Nat} {ds : List D} {d : D} (h1 : M[j]? = some (.o c ds)) (h2 : Nat.beq i ds.length = true) (h3 : Nat.ble ds.length n = true) (h : Nrm ρ (M.set j (.o c (ds ++ [d]))) R) :
    ∃ j' ds d', AV.m j = .m j' ∧ AV.d d = .d d' ∧ M[j']? = some (.o c ds) ∧ i ≤ ds.length ∧ ds.length ≤ n ∧ Nrm ρ (M.set j' (.o c (putA ds i d'))) R := by
  have e := Nat.eq_of_beq_eq_true h2
  refine ⟨j, ds, d, rfl, rfl, h1, by omega, Nat.le_of_ble_eq_true h3, ?_⟩
  unfold putA; rw [if_neg (by omega)]; exact h
theorem fld_s {ρ : Rho} {M : Mm} {R : Rho → Mm → Prop} {j c i n : Nat} {ds : List D} {d : D} (h1 : M[j]? = some (.o c ds)) (h2 : Nat.ble (i + 1) ds.length = true) (h3 : Nat.ble ds.length n = true) (h : Nrm ρ (M.set j (.o c (ds.set i d))) R) :
    ∃ j' ds d', AV.m j = .m j' ∧ AV.d d = .d d' ∧ M[j']? = some (.o c ds) ∧ i ≤ ds.length ∧ ds.length ≤ n ∧ Nrm ρ (M.set j' (.o c (putA ds i d'))) R := by
  have e := Nat.le_of_ble_eq_true h2
  refine ⟨j, ds, d, rfl, rfl, h1, by omega, Nat.le_of_ble_eq_true h3, ?_⟩
  unfold putA; rw [if_pos (by omega)]; exact h
theorem unD_n : unD [] = some [] := rfl
theorem unD_c {x : D} {as : List AV} {ds : List D} (h : unD as = some ds) : unD (.d x :: as) = some (x :: ds) := by
  show (unD as).map (x :: ·) = _
  rw [h]; rfl
theorem seq_last {R : Mm} {ds : List D} {x : MO} : seqOf (x :: R ++ [.l ds]) (.m (x :: R).length) = some ds := by simp [seqOf]
theorem bits_i {i : Int} {R : Int → Prop} (h : R i) : ∃ i', AV.d (.int i) = .d (.int i') ∧ R i' := ⟨i, rfl, h⟩
theorem ty_i {M : Mm} {a : AV} {T : String} {P : Prop} (h : tyOf M a = some T) (p : P) : tyOf M a = some T ∧ P := ⟨h, p⟩
theorem le_i {n m : Nat} {P : Prop} (h : Nat.ble n m = true) (p : P) : n ≤ m ∧ P := ⟨Nat.le_of_ble_eq_true h, p⟩
theorem nlt_i {n m : Nat} (h : Nat.ble m n = true) : ¬ n < m := Nat.not_lt.mpr (Nat.le_of_ble_eq_true h)
theorem lt_i {n m : Nat} (h : Nat.ble (n + 1) m = true) : n < m := Nat.le_of_ble_eq_true h
theorem mk_i {C : Ctx} {a : AV} {M' M1 : Mm} {n c : Nat} {ds : List D} {Ψ : AV → Mm → Prop} (hl : Nat.beq ds.length n = true) (h : Ψ (.d (.ob c ds)) M1) : ∃ ds', [MO.o c ds] = [.o c ds'] ∧ AV.d .non = .d .non ∧ ds'.length = n ∧ Ψ (.d (.ob c ds')) M1 := ⟨ds, rfl, rfl, Nat.eq_of_beq_eq_true hl, h⟩
theorem wset_n {C : Ctx} {M M' : Mm} {k : Nat} {ds : List D} {i : Int} {j : Nat} {z : D} {R : Mm → Prop} (hk : M[k]? = some (.l ds)) (hi : ixN ds.length i = some j) (e : M.set k (.l (ds.set j z)) = M') (h : R M') : WSet C (.m k) (.d (.int i)) (.d z) M R := wset_l hk hi (by rw [e]; exact h)
theorem atI_nat {α : Type} {xs : List α} {n : Nat} {d : α} (h : xs[n]? = some d) : atI xs (Int.ofNat n) = some d := by
  have hn : n < xs.length := by
    by_cases q : n < xs.length
    · exact q
    · rw [List.getElem?_eq_none (by omega)] at h; cases h
  unfold atI ixN
  rw [if_pos (show (0 : Int) ≤ Int.ofNat n from Int.natCast_nonneg n), if_pos (show Int.ofNat n < (xs.length : Int) from by have : (Int.ofNat n) = (n : Int) := rfl; omega)]
  exact h
theorem wi_lit {C : Ctx} {M : Mm} {Ψ : AV → Mm → Prop} (wk : C.W.K = C.X.K) {a : AV} {n : Nat} {ds : List D} {d : D} (hs : seqOf M a = some ds) (hi : ds[n]? = some d) (h : Ψ (.d d) M) : WI C a (.d (.int (Int.ofNat n))) M Ψ := wi_seq wk hs (atI_nat hi) h
theorem ixN_nat {n m : Nat} (h : n < m) : ixN m (Int.ofNat n) = some n := by
  unfold ixN
  rw [if_pos (show (0 : Int) ≤ Int.ofNat n from Int.natCast_nonneg n), if_pos (show Int.ofNat n < (m : Int) from by have : (Int.ofNat n) = (n : Int) := rfl; omega)]
  rfl
theorem wset_lit {C : Ctx} {M M' : Mm} {k : Nat} {ds : List D} {n : Nat} {z : D} {R : Mm → Prop} (hk : M[k]? = some (.l ds)) (hi : Nat.ble (n + 1) ds.length = true) (e : M.set k (.l (ds.set n z)) = M') (h : R M') : WSet C (.m k) (.d (.int (Int.ofNat n))) (.d z) M R :=
  wset_l hk (ixN_nat (Nat.le_of_ble_eq_true hi)) (by rw [e]; exact h)
/-- the promise of law, at the list that is handed in -/
theorem sp_lawD {K : PySem.W.Frag} {W : Wd} {dsp : DSp} {E : XK} (wk : W.K = K) (H : Hp) (a : Addr) (ns : List Int) (hS : SqL K H a (ns.map V.int)) (Ψ : AV → Mm → Prop) (T : Nat → List D → Mm → Prop) (hd : dsp [.d (.lst (ns.map .int))] [] Ψ T)
    (hQ : ∀ x M, Ψ x M → x = .d (.bl true)) (hT : ∀ c ds M, T c ds M → False) : spOf W 0 dsp [.ref a] H (fun v _ => v = .bl true) E := by
  refine ⟨fun _ => False, [], [], [.d (.lst (ns.map .int))], Ψ, T, ⟨.nil, by simp, fun b z => z.elim⟩, rfl, ?_, hd, fun x M' β v H' p em g r => ?_, fun c ds M' β H' cls dA t => (hT c ds M' t).elim⟩
  · have rr : ∀ l : List Int, Reps W (Av (fun _ => False) []) H (l.map .int) (l.map V.int) := by
      intro l
      induction l with
      | nil => exact reps_nil
      | cons z l ih => exact reps_cons (show Rep W _ H (.int z) (.int z) from rfl) ih
    refine ⟨.ref a, [], rfl, ?_, rfl⟩
    refine ⟨a, ns.map V.int, rfl, ?_, rr ns⟩
    subst wk
    rcases hS with h | h
    · refine .inl ⟨fun z => ?_, h⟩
      rcases z with z | ⟨l, hl, _⟩
      · exact z
      · simp at hl
    · exact .inr (.inr h)
  · have e := hQ x M' p
    subst e
    exact r
section
variable {P : Program} {w : World} {K : PySem.W.Frag} {mg : Str → Option Value} {base : Heap} {N gs ps : List Str} {Vi Li : List Nat} {k : Nat}
/-- a def's body, the place unfolded -/
theorem fn_D2 {x qual : Str} {st : Stmt} {f : Addr} {fd : FuncData} {W : Wd} {n0 : Nat} {dsp : DSp} (F : Fun K x qual st f fd) (S : FnScope N ps (defScope st))
    (vis : visC N (defScope st) Vi = true) (gl : glC gs (defScope st) = true)
    (wk : W.K = K) (hlen : ∀ as M Ψ T, dsp as M Ψ T → as.length = ps.length)
    (body : ∀ (X : Cx) as M Ψ (T : Nat → List D → Mm → Prop), Cok ⟨X, W, n0, fun c ds _ M => T c ds (M.take n0)⟩ P w K mg base N gs Vi Vi k → PassesOwn (model X.prog X.w) X.A X.env X.xe →
      (∃ q L f cdv, X.env = PyProof.Rows.envOfC q (defScope st) L f cdv) → M.length = n0 → dsp as M Ψ T →
      WS ⟨X, W, n0, fun c ds _ M => T c ds (M.take n0)⟩ (defBody st) (rho0 N as) M { nx := fun _ M' => Ψ (.d .non) (M'.take n0), rt := Ψ }) :
    FnOk P w K mg base (L2.CX P w) (k + 1) f fd ps (spOf W n0 dsp) :=
  fn_D F S (vis_of vis) (gl_of gl) wk hlen fun C ok own hst hfr hW hn0 hX as M Ψ T hM hT h => by
    obtain ⟨X, W', n', T'⟩ := C
    simp only at hW hn0 hT hX ok own
    subst hW hn0 hT
    obtain ⟨f', cdv, A, outer, s, H, E, hX⟩ := hX
    exact body X as M Ψ T ok own ⟨_, _, _, _, congrArg Cx.env hX⟩ hM h
end
end Dl

/-! DLC: list comprehensions over data. -/
namespace Dl
open PySem L2
def wipeR (ρ : Rho) : List Nat → Rho
  | [] => ρ
  | v :: vs => (wipeR ρ vs).set v none
section
variable {C : Ctx} {W : Wd} {S : Addr → Prop} {α α0 : Als} {ρ : Rho} {M : Mm} {σ : L2.St} {H H0 : Hp}
theorem Ev.unset (ev : Ev W S α ρ M σ H) (i : Nat) : Ev W S α (ρ.set i none) M (σ.set i none) H := by
  refine ⟨ev.em, by simp [ev.len], fun j a hj => ?_⟩
  by_cases h : i = j
  · subst h
    by_cases hl : i < ρ.length
    · rw [List.getElem?_set_self hl] at hj; cases hj
    · rw [List.getElem?_eq_none (by simpa using hl)] at hj; cases hj
  · rw [List.getElem?_set_ne h] at hj
    obtain ⟨v', h1, h2⟩ := ev.sl j a hj
    exact ⟨v', by rw [List.getElem?_set_ne h]; exact h1, h2⟩
theorem Ev.wipe (ev : Ev W S α ρ M σ H) : ∀ vs : List Nat, Ev W S α (wipeR ρ vs) M (wipe σ vs) H
  | [] => ev
  | v :: vs => (ev.wipe vs).unset v
theorem wipe_in {i : Nat} : ∀ {ws : List Nat} {τ τ' : L2.St}, τ.length = τ'.length → i ∈ ws → (L2.wipe τ ws)[i]? = (L2.wipe τ' ws)[i]? := by
  intro ws
  induction ws with
  | nil => intro τ τ' _ h; cases h
  | cons w ws ih2 =>
    intro τ τ' hl h
    show ((L2.wipe τ ws).set w none)[i]? = ((L2.wipe τ' ws).set w none)[i]?
    by_cases hw : w = i
    · subst hw
      by_cases q : w < τ.length
      · rw [List.getElem?_set_self (by rw [wipe_length]; exact q), List.getElem?_set_self (by rw [wipe_length]; omega)]
      · rw [List.getElem?_eq_none (by rw [List.length_set, wipe_length]; omega), List.getElem?_eq_none (by rw [List.length_set, wipe_length]; omega)]
    · rw [List.getElem?_set_ne hw, List.getElem?_set_ne hw]
      exact ih2 hl (by rcases List.mem_cons.mp h with e | e; exact absurd e.symm hw; exact e)
theorem wipe_set {j : Nat} {y : Option V} {vs : List Nat} {σ : L2.St} (h : j ∈ vs) : L2.wipe ((L2.wipe σ vs).set j y) vs = L2.wipe σ vs := by
  apply List.ext_getElem?
  intro i
  by_cases hv : i ∈ vs
  · exact wipe_in (by rw [List.length_set, wipe_length]) hv
  · rw [wipe_out hv, List.getElem?_set_ne (fun e : j = i => hv (by rw [← e]; exact h))]
/-- the context of a comprehension's block -/
abbrev Ctx.bk (C : Ctx) (X : Cx) (n : Nat) : Ctx := ⟨X, C.W, n, fun _ _ _ _ => False⟩
theorem bs_bk {X : Cx} {n : Nat} (hl : α0.length = n) (ht : ∀ b, Av S α0 b → H0 b ≠ none) : Bs (C.bk X n) S α0 H0 :=
  ⟨hl, ht, fun _ _ _ _ => False, (fun _ _ ⟨_, _, _, _, _, _, _, _, _, _, _, _, _, _, _, _, z⟩ => z.elim), fun _ _ _ _ _ _ _ _ _ z => z.elim⟩
/-- what a turn of a comprehension leaves -/
def Nxt (W : Wd) (S : Addr → Prop) (α : Als) (M : Mm) (H1 : Hp) (p : Addr) (acc : List D) (H : Hp) : Prop := EM W S (α ++ [[p]]) (M ++ [.l acc]) H ∧ Gr0 α (α ++ [[p]]) H1 H
theorem take_app {α : Type} {l r : List α} {n : Nat} (h : l.length = n) : (l ++ r).take n = l := by subst h; simp
/-- the element is put behind -/
theorem nxt_put {X : Cx} {H1 H2 H3 : Hp} {p : Addr} {acc acc' : List D} {v : V} {β : Als} {a : AV} {M' : Mm} (g : Nxt C.W S α M H1 p acc H2) (ha : acc.length < 10000000)
    (em : EM C.W S (α ++ [[p]] ++ β) M' H3) (gr : Gr (α ++ [[p]]) β H2 H3) (r : RepA C.W S (α ++ [[p]] ++ β) H3 a v) (c : Clo (M.length + 1) a M' fun a' M2 => M2 = M ++ [.l acc] ∧ ∃ x, a' = .d x ∧ acc' = acc ++ [x]) :
    ∃ us, H3 p = some (.lst us) ∧ us.length < sizeLine ∧ Nxt C.W S α M H1 p acc' (upd H3 p (.lst (us ++ [v]))) := by
  obtain ⟨em0, g0⟩ := g
  have hlen : (α ++ [[p]]).length = M.length + 1 := by rw [← em0.len]; simp
  have bs := bs_bk (C := C) (X := X) (n := M.length + 1) hlen em0.trA
  obtain ⟨a', M2, α2, ⟨e2, x, e1, e3⟩, em2, g2, r2⟩ := clo_ok (C := C.bk X (M.length + 1)) bs ⟨β, rfl, gr⟩ em r c
  subst e1; subst e2; subst e3
  obtain ⟨γ, eγ, g3⟩ := g2
  have hγ : γ = [] := by
    have h1 := em2.len
    have h2 := em0.len
    rw [eγ, List.length_append] at h1
    simp only [List.length_append, List.length_cons, List.length_nil] at h1 h2
    have : γ.length = 0 := by omega
    exact List.eq_nil_of_length_eq_zero this
  subst hγ
  rw [app_nil] at eγ
  subst eγ
  have hal : α.length = M.length := by have := hlen; simp at this; exact this
  have hk : (α ++ [[p]])[M.length]? = some [p] := by rw [← hal]; simp
  obtain ⟨p', us, ep, _, hh, rr⟩ := cell_l (k := M.length) (v := .ref p) (ds := acc) em2 (by simp) ⟨p, [], hk, rfl⟩
  cases ep
  obtain ⟨em4, g4⟩ := em2.put (k := M.length) (o := .lst (us ++ [v])) (m' := .l (acc ++ [x])) hk ⟨p, _, rfl, upd_same, reps_put hk (reps_app rr (reps_cons r2 reps_nil))⟩
  refine ⟨us, hh, by rw [reps_len rr, sizeLine_eq]; omega, ?_, ?_⟩
  · have e : (M ++ [MO.l acc]).set M.length (.l (acc ++ [x])) = M ++ [.l (acc ++ [x])] := by simp
    rw [← e]; exact em4
  · have z := g0.trans g3
    rw [app_nil] at z
    have z2 := z.trans g4
    rw [app_nil] at z2; exact z2
end
section
variable {P : Program} {w : World} {K : PySem.W.Frag} {mg : Str → Option Value} {base : Heap} {N gs : List Str} {Vi Li : List Nat} {k : Nat}
variable {C : Ctx} {elt iter c : Expr} {ρ : Rho} {M : Mm} {Ψ : AV → Mm → Prop} {x : Str} {pos p : Pos} {scope : Scope} {own : List (Str × Nat)} {j : Nat}
/-- the blocks of C -/
def BkX (C : Ctx) (scope : Scope) (X : Cx) : Prop := ∃ (s : Shared) (H : Hp) (A : Addr) (cl : List (Str × Addr)) (fp : List Addr), X = C.X.blk s H scope (compEnvC scope cl A C.X.env) fp
/-- the turns of [elt for x in J (if c)] -/
theorem lc_turns {S : Addr → Prop} {α : Als} {H : Hp} {σ : L2.St} {Q : VK} {J : It} {n : Nat} {ds : Nat → Option D} {G : Als → Hp → Prop} {vs : List Nat} {tt : TT} {te : TE}
    (em : EM C.W S α M H) (ev : Ev C.W S α ρ M σ H) (Y : Yl C S α H J n ds G) (acc : Nat → List D) (hj : j ∈ vs) (h0 : acc 0 = [])
    (hGG : ∀ α' H', Gr0 α α' H H' → G α' H')
    (hs : ∀ i d p H2, i < n → ds i = some d → Nxt C.W S α M H p (acc i) H2 → ∀ v, Rep C.W (Av S (α ++ [[p]])) H2 d v → Ev C.W S (α ++ [[p]]) ((wipeR ρ vs).set j (some (.d d))) (M ++ [.l (acc i)]) ((L2.wipe σ vs).set j (some v)) H2 →
      tt ((L2.wipe σ vs).set j (some v)) H2 fun b H3 => if b = true then te ((L2.wipe σ vs).set j (some v)) H3 fun y H4 => ∃ us, H4 p = some (.lst us) ∧ us.length < sizeLine ∧ Nxt C.W S α M H p (acc (i + 1)) (upd H4 p (.lst (us ++ [y]))) else Nxt C.W S α M H p (acc (i + 1)) H3)
    (q : PostE C S α H Ψ Q) (hd : Ψ (.m M.length) (M ++ [.l (acc n)])) (p : Addr) (hp : H p = none) :
    ∃ W : Nat → Nat → Hp → Prop, (∃ m, W 0 m (upd H p (.lst []))) ∧ ∀ i m H, W i m H →
      (J.stop i H ∧ Q (.ref p) H) ∨ (J.go i H ∧ ∃ Nx : Hp → Prop, (∀ H', Nx H' → ∃ m', m' < m ∧ W (i + 1) m' H') ∧ ∀ x H', J.yld i H x H' → gName j x (L2.wipe σ vs) H' fun σ2 H2 => L2.wipe σ2 vs = L2.wipe σ vs ∧ tt σ2 H2 fun b H3 =>
        if b = true then te σ2 H3 fun y H4 => ∃ acc, H4 p = some (.lst acc) ∧ acc.length < sizeLine ∧ Nx (upd H4 p (.lst (acc ++ [y]))) else Nx H3) := by
  have start : Nxt C.W S α M H p (acc 0) (upd H p (.lst [])) := by
    rw [h0]
    refine newM (C := C) (Ψ := fun a M' => a = .m M.length ∧ M' = M ++ [.l []]) (Q := fun v H' => v = .ref p → Nxt C.W S α M H p [] H') (m := .l []) em (fun a M' β v H' pp em' g' r' ev' => ?_) hp ⟨p, [], rfl, upd_same, reps_nil⟩ ⟨rfl, rfl⟩ rfl
    obtain ⟨e1, e2⟩ := pp
    subst e1; subst e2; subst ev'
    obtain ⟨p', us, ep, hk, _, _⟩ := cell_l (k := M.length) (ds := []) em' (by simp) r'
    cases ep
    have hl := em'.len
    have hl2 := em.len
    simp only [List.length_append, List.length_cons, List.length_nil] at hl
    have : β = [[p]] := by
      match β, hl, hk with
      | [b], _, hk => rw [hl2] at hk; simp at hk; rw [hk]
      | [], hl, _ => simp at hl; omega
      | _ :: _ :: _, hl, _ => simp at hl; omega
    subst this
    exact ⟨em', [[p]], rfl, g'⟩
  refine ⟨fun i m H' => m = n - i ∧ i ≤ n ∧ Nxt C.W S α M H p (acc i) H', ⟨n, by simp, Nat.zero_le _, start⟩, ?_⟩
  rintro i m H2 ⟨rfl, hi, nx⟩
  by_cases hlt : i < n
  · refine .inr ⟨Y.go i _ H2 hlt (hGG _ _ nx.2), fun H' => Nxt C.W S α M H p (acc (i + 1)) H', fun H' z => ⟨n - (i + 1), by omega, rfl, hlt, z⟩, fun v H3 y => ?_⟩
    obtain ⟨sm, d, hd', r⟩ := Y.yld i _ H2 v H3 (M ++ [.l (acc i)]) hlt (hGG _ _ nx.2) nx.2 nx.1 y
    have nx2 : Nxt C.W S α M H p (acc i) H3 := ⟨by have z := nx.1.on' sm; rw [app_nil] at z; exact z, by have z := nx.2.trans (Gr.same sm); rw [app_nil] at z; exact z⟩
    have ev2 : Ev C.W S (α ++ [[p]]) ρ (M ++ [.l (acc i)]) σ H3 := by
      obtain ⟨β, eβ, gβ⟩ := nx2.2
      have : β = [[p]] := List.append_cancel_left eβ.symm
      subst this
      exact ev.up gβ nx2.1
    show L2.wipe ((L2.wipe σ vs).set j (some v)) vs = L2.wipe σ vs ∧ _
    refine ⟨wipe_set hj, hs i d p H3 hlt hd' nx2 v r ((ev2.wipe vs).set j r)⟩
  · have e : i = n := by omega
    subst e
    obtain ⟨β, eβ, gβ⟩ := nx.2
    have : β = [[p]] := List.append_cancel_left eβ.symm
    subst this
    refine .inl ⟨Y.stop _ H2 (hGG _ _ nx.2), q (.m M.length) _ [[p]] (.ref p) H2 hd nx.1 gβ ⟨p, [], ?_, rfl⟩⟩
    have hal := em.len
    rw [hal]; simp
/-- a block's place -/
theorem bk_room {X' : Cx} (h : BkX C scope X') (ok : Cok C P w K mg base N gs Vi Li k) (n : Nat) {gs' : List Str} {Vi' : List Nat}
    (hv : ∀ (i : Nat) y, i ∈ Vi' → N[i]? = some y → Vis X'.env.scope y) (hg : ∀ (i : Nat) y, gs'[i]? = some y → Gl X' y) : Cok (C.bk X' n) P w K mg base N gs' Vi' [] k := by
  obtain ⟨s, H, A, cl, fp, rfl⟩ := h
  exact ⟨ok.prog, ok.wE, ok.kE, ok.mgE, ok.baseE, ok.WK, ok.nE, ok.nd, hv, fun i y hi => by simp at hi, hg, ok.calm, ok.room⟩
def tBk (C : Ctx) (scope : Scope) (c : Expr) : TT := fun σ H Q => ∀ X', BkX C scope X' → uT X' c σ H Q
def eBk (C : Ctx) (scope : Scope) (e : Expr) : TE := fun σ H Q => ∀ X', BkX C scope X' → uE X' e σ H Q
/-- a turn with a test -/
theorem lc_turn1 {S : Addr → Prop} {α : Als} {H H2 : Hp} {p : Addr} {acc acc' : List D} {ρ2 : Rho} {σ2 : L2.St} (nx : Nxt C.W S α M H p acc H2) (ha : acc.length < 10000000) (ev : Ev C.W S (α ++ [[p]]) ρ2 (M ++ [.l acc]) σ2 H2)
    (h : ∀ X', BkX C scope X' → WT (C.bk X' (M.length + 1)) c ρ2 (M ++ [.l acc]) fun b M3 => (b = true → ∀ X2, BkX C scope X2 → WE (C.bk X2 (M.length + 1)) elt ρ2 M3 fun y M4 => Clo (M.length + 1) y M4 fun y' M5 => M5 = M ++ [.l acc] ∧ ∃ x, y' = .d x ∧ acc' = acc ++ [x]) ∧ (b = false → M3.take (M.length + 1) = M ++ [.l acc] ∧ acc' = acc)) :
    tBk C scope c σ2 H2 fun b H3 => if b = true then eBk C scope elt σ2 H3 fun y H4 => ∃ us, H4 p = some (.lst us) ∧ us.length < sizeLine ∧ Nxt C.W S α M H p acc' (upd H4 p (.lst (us ++ [y]))) else Nxt C.W S α M H p acc' H3 := by
  intro X' hX'
  have hlen : (α ++ [[p]]).length = M.length + 1 := by rw [← nx.1.len]; simp
  have bs := bs_bk (C := C) (X := X') (n := M.length + 1) hlen nx.1.trA
  refine (h X' hX').run S (α ++ [[p]]) H2 (α ++ [[p]]) σ2 H2 _ bs Gr0.refl ev fun b M3 β H3 hb em3 g3 => ?_
  cases b with
  | false =>
    rw [if_neg Bool.false_ne_true]
    obtain ⟨e1, e2⟩ := hb.2 rfl
    subst e2
    have em4 := em3.take (M.length + 1)
    rw [e1, ← hlen, List.take_left'] at em4
    · refine ⟨em4, ?_⟩
      have g5 : Gr (α ++ [[p]]) [] H2 H3 := ⟨g3.kp, g3.st, fun l hl => by simp at hl⟩
      have z := nx.2.trans g5
      rw [app_nil] at z; exact z
    · rfl
  | true =>
    rw [if_pos rfl]
    intro X2 hX2
    refine (hb.1 rfl X2 hX2).run S (α ++ [[p]]) H2 (α ++ [[p]] ++ β) σ2 H3 _ (bs_bk hlen nx.1.trA) ⟨β, rfl, g3⟩ (ev.up g3 em3) fun y M4 β2 v H4 cc em4 g4 r4 => ?_
    have e : α ++ [[p]] ++ (β ++ β2) = α ++ [[p]] ++ β ++ β2 := (List.append_assoc _ _ _).symm
    exact nxt_put (C := C) (X := X2) nx ha (β := β ++ β2) (by rw [e]; exact em4) (g3.trans g4) (by rw [e]; exact r4) cc
/-- a turn without a test -/
theorem lc_turn0 {S : Addr → Prop} {α : Als} {H H2 : Hp} {p : Addr} {acc acc' : List D} {ρ2 : Rho} {σ2 : L2.St} (nx : Nxt C.W S α M H p acc H2) (ha : acc.length < 10000000) (ev : Ev C.W S (α ++ [[p]]) ρ2 (M ++ [.l acc]) σ2 H2)
    (h : ∀ X2, BkX C scope X2 → WE (C.bk X2 (M.length + 1)) elt ρ2 (M ++ [.l acc]) fun y M4 => Clo (M.length + 1) y M4 fun y' M5 => M5 = M ++ [.l acc] ∧ ∃ x, y' = .d x ∧ acc' = acc ++ [x]) :
    tYes σ2 H2 fun b H3 => if b = true then eBk C scope elt σ2 H3 fun y H4 => ∃ us, H4 p = some (.lst us) ∧ us.length < sizeLine ∧ Nxt C.W S α M H p acc' (upd H4 p (.lst (us ++ [y]))) else Nxt C.W S α M H p acc' H3 := by
  show (if true = true then _ else Nxt C.W S α M H p acc' H2)
  rw [if_pos rfl]
  intro X2 hX2
  have hlen : (α ++ [[p]]).length = M.length + 1 := by rw [← nx.1.len]; simp
  refine (h X2 hX2).run S (α ++ [[p]]) H2 (α ++ [[p]]) σ2 H2 _ (bs_bk hlen nx.1.trA) Gr0.refl ev fun y M4 β v H4 cc em4 g4 r4 => ?_
  exact nxt_put (C := C) (X := X2) nx ha em4 g4 r4 cc
theorem pts_bk {s : Shared} {H : Hp} {A : Addr} {cl : List (Str × Addr)} {fp : List Addr} : PTs (C.X.blk s H scope (compEnvC scope cl A C.X.env) fp) [c] (tBk C scope c) :=
  pts_one ⟨fun pins s' σ H' Q I h => pt_u.run pins s' σ H' Q I (h _ ⟨s, H, A, cl, fp, rfl⟩)⟩
theorem pe_bk {s : Shared} {H : Hp} {A : Addr} {cl : List (Str × Addr)} {fp : List Addr} : PE (C.X.blk s H scope (compEnvC scope cl A C.X.env) fp) elt (eBk C scope elt) :=
  ⟨fun pins s' σ H' Q I h => pe_u.run pins s' σ H' Q I (h _ ⟨s, H, A, cl, fp, rfl⟩)⟩
/-- [elt for x in xs if c], the turns' data -/
def LcT (C : Ctx) (scope : Scope) (c elt : Expr) (ρ2 : Rho) (M1 : Mm) (acc acc' : List D) : Prop := acc.length < 10000000 ∧ ∀ X', BkX C scope X' → WT (C.bk X' (M1.length + 1)) c ρ2 (M1 ++ [.l acc]) fun b M3 =>
  (b = true → ∀ X2, BkX C scope X2 → WE (C.bk X2 (M1.length + 1)) elt ρ2 M3 fun y M4 => Clo (M1.length + 1) y M4 fun y' M5 => M5 = M1 ++ [.l acc] ∧ ∃ x, y' = .d x ∧ acc' = acc ++ [x]) ∧ (b = false → M3.take (M1.length + 1) = M1 ++ [.l acc] ∧ acc' = acc)
def LcE (C : Ctx) (scope : Scope) (elt : Expr) (ρ2 : Rho) (M1 : Mm) (acc acc' : List D) : Prop := acc.length < 10000000 ∧ ∀ X2, BkX C scope X2 → WE (C.bk X2 (M1.length + 1)) elt ρ2 (M1 ++ [.l acc]) fun y M4 => Clo (M1.length + 1) y M4 fun y' M5 => M5 = M1 ++ [.l acc] ∧ ∃ x, y' = .d x ∧ acc' = acc ++ [x]
theorem pg_bk {px : Pos} (ok : Cok C P w K mg base N gs Vi Li k) (hj : N[j]? = some x) (hx : scope.names.lookup x = some .local) {s : Shared} {H : Hp} {A : Addr} {cl : List (Str × Addr)} {fp : List Addr} :
    PG (C.X.blk s H scope (compEnvC scope cl A C.X.env) fp) (.Name x px) (gName j) :=
  pg_name (i := j) (by show C.X.N.Nodup; rw [ok.nE]; exact ok.nd) (by show C.X.N[j]? = _; rw [ok.nE]; exact hj) (.inl (lookup_relabel_local hx)) (.inr (lookup_relabel_local hx))
theorem we_lcL0 {px : Pos} (ok : Cok C P w K mg base N gs Vi Li k) (bo : BlkOk C.X.N C.X.env.scope scope [(x, j)]) (hj : N[j]? = some x) (hx : scope.names.lookup x = some .local)
    (h : WE C iter ρ M fun v M1 => ∃ ds, v = .d (.lst ds) ∧ ∃ acc : Nat → List D, acc 0 = [] ∧ (∀ i d, i < ds.length → ds[i]? = some d → LcE C scope elt ((wipeR ρ [j]).set j (some (.d d))) M1 (acc i) (acc (i + 1))) ∧ Ψ (.m M1.length) (M1 ++ [.l (acc ds.length)]))
    (hf : ∀ y, foldedSetIterable iter C.X.env y = pure y := by intro _; rfl) : WE C (.ListComp elt [⟨.Name x px, iter, [], 0⟩] scope pos) ρ M Ψ := by
  refine ⟨fun S α0 H0 α σ H Q bs g ev q => uE_of (pe_lc ok.calm (by rw [ok.nE]; exact ok.nd) (pi_list pe_u) bo (fun _ _ _ _ _ => pg_bk ok hj hx) (fun _ _ _ _ _ => pts_nil) (fun _ _ _ _ _ => pe_bk) hf) ?_⟩
  refine h.run S α0 H0 α σ H _ bs g ev fun v M1 β u H1 p1 em1 g1 r1 => ?_
  obtain ⟨ds, e, acc, h0, h1, h2⟩ := p1
  subst e
  obtain ⟨a, vs, e, t, rr⟩ := (show ∃ a vs, u = .ref a ∧ LSq C.W (Av S (α ++ β)) H1 a vs ∧ Reps C.W (Av S (α ++ β)) H1 ds vs from r1)
  refine ⟨a, e, ⟨vs, ok.wk ▸ t.sq⟩, fun p hp => ?_⟩
  exact lc_turns em1 (ev.up g1 em1) (yl_list ok.wk rr) acc (List.mem_singleton.mpr rfl) h0 (fun α' H' gg => ok.wk ▸ t.on gg) (fun i d p H2 hi hd nx v r ev2 => lc_turn0 nx (h1 i d hi hd).1 ev2 (h1 i d hi hd).2) (thnE q g1) h2 p hp
theorem we_lcL1 {px : Pos} (ok : Cok C P w K mg base N gs Vi Li k) (bo : BlkOk C.X.N C.X.env.scope scope [(x, j)]) (hj : N[j]? = some x) (hx : scope.names.lookup x = some .local)
    (h : WE C iter ρ M fun v M1 => ∃ ds, v = .d (.lst ds) ∧ ∃ acc : Nat → List D, acc 0 = [] ∧ (∀ i d, i < ds.length → ds[i]? = some d → LcT C scope c elt ((wipeR ρ [j]).set j (some (.d d))) M1 (acc i) (acc (i + 1))) ∧ Ψ (.m M1.length) (M1 ++ [.l (acc ds.length)]))
    (hf : ∀ y, foldedSetIterable iter C.X.env y = pure y := by intro _; rfl) : WE C (.ListComp elt [⟨.Name x px, iter, [c], 0⟩] scope pos) ρ M Ψ := by
  refine ⟨fun S α0 H0 α σ H Q bs g ev q => uE_of (pe_lc ok.calm (by rw [ok.nE]; exact ok.nd) (pi_list pe_u) bo (fun _ _ _ _ _ => pg_bk ok hj hx) (fun _ _ _ _ _ => pts_bk) (fun _ _ _ _ _ => pe_bk) hf) ?_⟩
  refine h.run S α0 H0 α σ H _ bs g ev fun v M1 β u H1 p1 em1 g1 r1 => ?_
  obtain ⟨ds, e, acc, h0, h1, h2⟩ := p1
  subst e
  obtain ⟨a, vs, e, t, rr⟩ := (show ∃ a vs, u = .ref a ∧ LSq C.W (Av S (α ++ β)) H1 a vs ∧ Reps C.W (Av S (α ++ β)) H1 ds vs from r1)
  refine ⟨a, e, ⟨vs, ok.wk ▸ t.sq⟩, fun p hp => ?_⟩
  exact lc_turns em1 (ev.up g1 em1) (yl_list ok.wk rr) acc (List.mem_singleton.mpr rfl) h0 (fun α' H' gg => ok.wk ▸ t.on gg) (fun i d p H2 hi hd nx v r ev2 => lc_turn1 nx (h1 i d hi hd).1 ev2 (h1 i d hi hd).2) (thnE q g1) h2 p hp
theorem we_lcT0 {px : Pos} (ok : Cok C P w K mg base N gs Vi Li k) (bo : BlkOk C.X.N C.X.env.scope scope [(x, j)]) (hj : N[j]? = some x) (hx : scope.names.lookup x = some .local)
    (h : WE C iter ρ M fun v M1 => ∃ ds, v = .d (.tup ds) ∧ ∃ acc : Nat → List D, acc 0 = [] ∧ (∀ i d, i < ds.length → ds[i]? = some d → LcE C scope elt ((wipeR ρ [j]).set j (some (.d d))) M1 (acc i) (acc (i + 1))) ∧ Ψ (.m M1.length) (M1 ++ [.l (acc ds.length)]))
    (hf : ∀ y, foldedSetIterable iter C.X.env y = pure y := by intro _; rfl) : WE C (.ListComp elt [⟨.Name x px, iter, [], 0⟩] scope pos) ρ M Ψ := by
  refine ⟨fun S α0 H0 α σ H Q bs g ev q => uE_of (pe_lc ok.calm (by rw [ok.nE]; exact ok.nd) (pi_tup pe_u) bo (fun _ _ _ _ _ => pg_bk ok hj hx) (fun _ _ _ _ _ => pts_nil) (fun _ _ _ _ _ => pe_bk) hf) ?_⟩
  refine h.run S α0 H0 α σ H _ bs g ev fun v M1 β u H1 p1 em1 g1 r1 => ?_
  obtain ⟨ds, e, acc, h0, h1, h2⟩ := p1
  subst e
  obtain ⟨a, vs, e, t, rr⟩ := (show ∃ a vs, u = .ref a ∧ TSq C.W (Av S (α ++ β)) H1 a vs ∧ Reps C.W (Av S (α ++ β)) H1 ds vs from r1)
  refine ⟨a, e, ⟨vs, ok.wk ▸ t.sq⟩, fun p hp => ?_⟩
  exact lc_turns em1 (ev.up g1 em1) (yl_tup ok.wk rr) acc (List.mem_singleton.mpr rfl) h0 (fun α' H' gg => ok.wk ▸ t.on gg) (fun i d p H2 hi hd nx v r ev2 => lc_turn0 nx (h1 i d hi hd).1 ev2 (h1 i d hi hd).2) (thnE q g1) h2 p hp
theorem we_lcT1 {px : Pos} (ok : Cok C P w K mg base N gs Vi Li k) (bo : BlkOk C.X.N C.X.env.scope scope [(x, j)]) (hj : N[j]? = some x) (hx : scope.names.lookup x = some .local)
    (h : WE C iter ρ M fun v M1 => ∃ ds, v = .d (.tup ds) ∧ ∃ acc : Nat → List D, acc 0 = [] ∧ (∀ i d, i < ds.length → ds[i]? = some d → LcT C scope c elt ((wipeR ρ [j]).set j (some (.d d))) M1 (acc i) (acc (i + 1))) ∧ Ψ (.m M1.length) (M1 ++ [.l (acc ds.length)]))
    (hf : ∀ y, foldedSetIterable iter C.X.env y = pure y := by intro _; rfl) : WE C (.ListComp elt [⟨.Name x px, iter, [c], 0⟩] scope pos) ρ M Ψ := by
  refine ⟨fun S α0 H0 α σ H Q bs g ev q => uE_of (pe_lc ok.calm (by rw [ok.nE]; exact ok.nd) (pi_tup pe_u) bo (fun _ _ _ _ _ => pg_bk ok hj hx) (fun _ _ _ _ _ => pts_bk) (fun _ _ _ _ _ => pe_bk) hf) ?_⟩
  refine h.run S α0 H0 α σ H _ bs g ev fun v M1 β u H1 p1 em1 g1 r1 => ?_
  obtain ⟨ds, e, acc, h0, h1, h2⟩ := p1
  subst e
  obtain ⟨a, vs, e, t, rr⟩ := (show ∃ a vs, u = .ref a ∧ TSq C.W (Av S (α ++ β)) H1 a vs ∧ Reps C.W (Av S (α ++ β)) H1 ds vs from r1)
  refine ⟨a, e, ⟨vs, ok.wk ▸ t.sq⟩, fun p hp => ?_⟩
  exact lc_turns em1 (ev.up g1 em1) (yl_tup ok.wk rr) acc (List.mem_singleton.mpr rfl) h0 (fun α' H' gg => ok.wk ▸ t.on gg) (fun i d p H2 hi hd nx v r ev2 => lc_turn1 nx (h1 i d hi hd).1 ev2 (h1 i d hi hd).2) (thnE q g1) h2 p hp
theorem we_lcR0 {px pr : Pos} {ix : Nat} (ok : Cok C P w K mg base N gs Vi Li k) (hN : gs[ix]? = some ("range" : Str)) (hm : mg "range" = none) (bo : BlkOk C.X.N C.X.env.scope scope [(x, j)]) (hj : N[j]? = some x) (hx : scope.names.lookup x = some .local)
    (h : WE C iter ρ M fun v M1 => ∃ n : Int, v = .d (.int n) ∧ (-1000000000 ≤ n ∧ n ≤ 1000000000) ∧ ∃ acc : Nat → List D, acc 0 = [] ∧ (∀ i : Nat, i < n.toNat → LcE C scope elt ((wipeR ρ [j]).set j (some (.d (.int i)))) M1 (acc i) (acc (i + 1))) ∧ Ψ (.m M1.length) (M1 ++ [.l (acc n.toNat)]))
    (hs : starEach [iter] C.X.env = [(false, eval iter C.X.env)] := by rfl) (hs1 : starEach [iter] C.X.env = (false, eval iter C.X.env) :: starEach [] C.X.env := by rfl)
    (hf : ∀ y, foldedSetIterable (.Call (.Name "range" p) [iter] [] pr) C.X.env y = pure y := by intro _; rfl) : WE C (.ListComp elt [⟨.Name x px, .Call (.Name "range" p) [iter] [] pr, [], 0⟩] scope pos) ρ M Ψ := by
  refine ⟨fun S α0 H0 α σ H Q bs g ev q => uE_of (pe_lc ok.calm (by rw [ok.nE]; exact ok.nd) (pi_range1 (ok.gl ix _ hN) (by rw [ok.mgE]; exact hm) (pa_cons pe_u pa_nil hs1) hs) bo (fun _ _ _ _ _ => pg_bk ok hj hx) (fun _ _ _ _ _ => pts_nil) (fun _ _ _ _ _ => pe_bk) hf) ?_⟩
  refine h.run S α0 H0 α σ H _ bs g ev fun v M1 β u H1 p1 em1 g1 r1 => ?_
  obtain ⟨n, e, ⟨hn1, hn2⟩, acc, h0, h1, h2⟩ := p1
  subst e
  refine ⟨n, by rw [show u = .int n from r1], by omega, by omega, fun p hp => ?_⟩
  exact lc_turns em1 (ev.up g1 em1) (yl_range (lo := 0) (n := n.toNat)) acc (List.mem_singleton.mpr rfl) h0 (fun _ _ _ => trivial) (fun i d p H2 hi hd nx v r ev2 => by
    cases hd
    rw [Int.zero_add] at ev2
    exact lc_turn0 nx (h1 i hi).1 ev2 (h1 i hi).2) (thnE q g1) h2 p hp
theorem we_lcR1 {px pr : Pos} {ix : Nat} (ok : Cok C P w K mg base N gs Vi Li k) (hN : gs[ix]? = some ("range" : Str)) (hm : mg "range" = none) (bo : BlkOk C.X.N C.X.env.scope scope [(x, j)]) (hj : N[j]? = some x) (hx : scope.names.lookup x = some .local)
    (h : WE C iter ρ M fun v M1 => ∃ n : Int, v = .d (.int n) ∧ (-1000000000 ≤ n ∧ n ≤ 1000000000) ∧ ∃ acc : Nat → List D, acc 0 = [] ∧ (∀ i : Nat, i < n.toNat → LcT C scope c elt ((wipeR ρ [j]).set j (some (.d (.int i)))) M1 (acc i) (acc (i + 1))) ∧ Ψ (.m M1.length) (M1 ++ [.l (acc n.toNat)]))
    (hs : starEach [iter] C.X.env = [(false, eval iter C.X.env)] := by rfl) (hs1 : starEach [iter] C.X.env = (false, eval iter C.X.env) :: starEach [] C.X.env := by rfl)
    (hf : ∀ y, foldedSetIterable (.Call (.Name "range" p) [iter] [] pr) C.X.env y = pure y := by intro _; rfl) : WE C (.ListComp elt [⟨.Name x px, .Call (.Name "range" p) [iter] [] pr, [c], 0⟩] scope pos) ρ M Ψ := by
  refine ⟨fun S α0 H0 α σ H Q bs g ev q => uE_of (pe_lc ok.calm (by rw [ok.nE]; exact ok.nd) (pi_range1 (ok.gl ix _ hN) (by rw [ok.mgE]; exact hm) (pa_cons pe_u pa_nil hs1) hs) bo (fun _ _ _ _ _ => pg_bk ok hj hx) (fun _ _ _ _ _ => pts_bk) (fun _ _ _ _ _ => pe_bk) hf) ?_⟩
  refine h.run S α0 H0 α σ H _ bs g ev fun v M1 β u H1 p1 em1 g1 r1 => ?_
  obtain ⟨n, e, ⟨hn1, hn2⟩, acc, h0, h1, h2⟩ := p1
  subst e
  refine ⟨n, by rw [show u = .int n from r1], by omega, by omega, fun p hp => ?_⟩
  exact lc_turns em1 (ev.up g1 em1) (yl_range (lo := 0) (n := n.toNat)) acc (List.mem_singleton.mpr rfl) h0 (fun _ _ _ => trivial) (fun i d p H2 hi hd nx v r ev2 => by
    cases hd
    rw [Int.zero_add] at ev2
    exact lc_turn1 nx (h1 i hi).1 ev2 (h1 i hi).2) (thnE q g1) h2 p hp
/-! ### what is seen from within a block -/
def relF (env : Env) (p : Str × NameKind) : Str × NameKind := if (p.2 == NameKind.free && env.scope.kind == .function && env.kindOf p.1 == some .cell) then (p.1, NameKind.cell) else (p.1, p.2)
theorem relF_eq {env : Env} {scope : Scope} : (relabel scope env).names = scope.names.map (relF env) := rfl
theorem rel_lookup {env : Env} : ∀ {names : List (Str × NameKind)} {y : Str} {kd : NameKind}, names.lookup y = some kd →
    (names.map (relF env)).lookup y = some kd ∨ ((names.map (relF env)).lookup y = some .cell ∧ kd = .free)
  | [], _, _, h => by simp at h
  | (n, k0) :: r, y, kd, h => by
    rw [List.map_cons]
    by_cases hy : y = n
    · subst hy
      simp only [List.lookup_cons, beq_self_eq_true] at h
      have ek : k0 = kd := Option.some.inj h
      subst ek
      by_cases c : (k0 == NameKind.free && env.scope.kind == .function && env.kindOf y == some .cell) = true
      · rw [show relF env (y, k0) = (y, .cell) from if_pos c]
        refine .inr ⟨by simp [List.lookup_cons], ?_⟩
        simp only [Bool.and_eq_true] at c
        have := c.1.1
        cases k0 <;> first | rfl | cases this
      · rw [show relF env (y, k0) = (y, k0) from if_neg c]
        exact .inl (by simp [List.lookup_cons])
    · have hb : (y == n) = false := by simpa using hy
      simp only [List.lookup_cons, hb] at h
      have ih := rel_lookup (env := env) h
      by_cases c : (k0 == NameKind.free && env.scope.kind == .function && env.kindOf n == some .cell) = true
      · rw [show relF env (n, k0) = (n, .cell) from if_pos c, List.lookup_cons, hb]; exact ih
      · rw [show relF env (n, k0) = (n, k0) from if_neg c, List.lookup_cons, hb]; exact ih
theorem bk_vis {X' : Cx} {y : Str} (h : BkX C scope X') (hy : scope.names.lookup y = some .local ∨ scope.names.lookup y = some .cell ∨ scope.names.lookup y = some .free) : Vis X'.env.scope y := by
  obtain ⟨s, H, A, cl, fp, rfl⟩ := h
  show Vis (relabel scope C.X.env) y
  rcases hy with hy | hy | hy
  · rcases rel_lookup (env := C.X.env) hy with z | ⟨z, e⟩
    · exact .inl z
    · cases e
  · rcases rel_lookup (env := C.X.env) hy with z | ⟨z, e⟩
    · exact .inr (.inl z)
    · cases e
  · rcases rel_lookup (env := C.X.env) hy with z | ⟨z, _⟩
    · exact .inr (.inr z)
    · exact .inr (.inl z)
theorem bk_gl {X' : Cx} {y : Str} (h : BkX C scope X') (hy : scope.names.lookup y = some .globalImplicit) : Gl X' y := by
  obtain ⟨s, H, A, cl, fp, rfl⟩ := h
  rcases rel_lookup (env := C.X.env) hy with z | ⟨z, e⟩
  · exact z
  · cases e
theorem bk_lv {X' : Cx} {y : Str} {i : Nat} (h : BkX C scope X') (B : Lv C.X y i) (hy : scope.names.lookup y = some .local ∨ scope.names.lookup y = some .cell ∨ scope.names.lookup y = some .free) : Lv X' y i := by
  refine ⟨?_, bk_vis h hy, B.d1, B.d2⟩
  obtain ⟨s, H, A, cl, fp, rfl⟩ := h
  exact B.nm
theorem bk_lvN {X' : Cx} {y : Str} {i : Nat} (h : BkX C scope X') (ok : Cok C P w K mg base N gs Vi Li k) (hN : N[i]? = some y) (d1 : (y == ("__debug__" : Str)) = false) (d2 : (y == ("__classdict__" : Str)) = false) (hy : scope.names.lookup y = some .local ∨ scope.names.lookup y = some .cell ∨ scope.names.lookup y = some .free) : Lv X' y i := by
  refine ⟨?_, bk_vis h hy, d1, d2⟩
  obtain ⟨s, H, A, cl, fp, rfl⟩ := h
  show C.X.N[i]? = _
  rw [ok.nE]; exact hN
theorem bk_b {X' : Cx} {y : Str} {id : String} (h : BkX C scope X') (B : Bk C.X y id) (hy : scope.names.lookup y = some .globalImplicit) : Bk X' y id := by
  have g := bk_gl h hy
  obtain ⟨s, H, A, cl, fp, rfl⟩ := h
  exact ⟨g, B.mg, B.bt, B.n1, B.n2⟩
theorem bk_t {X' : Cx} {y : Str} {id : String} (h : BkX C scope X') (B : Bt C.X y id) (hy : scope.names.lookup y = some .globalImplicit) : Bt X' y id := by
  have g := bk_gl h hy
  obtain ⟨s, H, A, cl, fp, rfl⟩ := h
  exact ⟨g, B.mg, B.bt, B.n1, B.n2⟩
theorem bk_f {X' : Cx} {y : Str} {n0 : Nat} {dsp : DSp} (h : BkX C scope X') (B : Fc C.X C.W y n0 dsp) (hy : scope.names.lookup y = some .globalImplicit) : Fc X' C.W y n0 dsp := by
  have g := bk_gl h hy
  obtain ⟨s, H, A, cl, fp, rfl⟩ := h
  exact ⟨g, B.ex, B.n2⟩
theorem bk_c {X' : Cx} {y : Str} {n0 : Nat} {dsp : DSp} (h : BkX C scope X') (B : Cc C.X C.W y n0 dsp) (hy : scope.names.lookup y = some .globalImplicit) : Cc X' C.W y n0 dsp := by
  have g := bk_gl h hy
  obtain ⟨s, H, A, cl, fp, rfl⟩ := h
  exact ⟨g, B.ex, B.n2⟩
theorem bk_wk {X' : Cx} {n : Nat} (h : BkX C scope X') (wk : C.W.K = C.X.K) : (C.bk X' n).W.K = (C.bk X' n).X.K := by
  obtain ⟨s, H, A, cl, fp, rfl⟩ := h
  exact wk
theorem bo_of {sc : Scope} (ok : Cok C P w K mg base N gs Vi Li k) (hE : ∃ q L f cdv, C.X.env = PyProof.Rows.envOfC q sc L f cdv) (h : blkC N sc scope own = true) : BlkOk C.X.N C.X.env.scope scope own := by
  obtain ⟨q, L, f, cdv, e⟩ := hE
  rw [ok.nE, e]
  exact blkOk_by h
end
end Dl

namespace Dl
open PySem L2 PyProof.Rows
theorem add_gen (l b : Addr) (o o2 : Obj) (items items2 : Array Value) (n n2 : Nat) (hd : o.data = .seq items n) (hd2 : o2.data = .seq items2 n2) (hc : o.cls = .type "list") (hc2 : o2.cls = .type "list") (hz : items.size + items2.size ≤ sizeLine) :
    Meets (Builtin.«list.__add__» ⟨[.ref l, .ref b], []⟩) (fun _ R s => s.heap.get? l = some o ∧ s.heap.get? b = some o2 ∧ R (.ok (.ret (Value.ref s.heap.objs.size))) { s with heap := s.heap.push { cls := .type "list", data := .seq (items ++ items2) } }) :=
  .of_wp fun prog w A R s h => by
    obtain ⟨hp, g, d, tk, os⟩ := s
    obtain ⟨hl, hb, h⟩ := h
    have t1 : Shared.TypeIs ⟨hp, g, d, tk, os⟩ (.ref b) "list" := ⟨_, hb, hc2⟩
    have f3 := AutoSeq1.sub_list_list
    wp_walk using wpAny_listItems hl hd, wpAny_listItems hb hd2
    exact ⟨_, rfl, h⟩
/-- list + list, of whatever make -/
theorem op_catG {X : Cx} : OpR X (binaryOp .Add) (fun x y H Q => ∃ l b xs zs, x = .ref l ∧ y = .ref b ∧ SqL X.K H l xs ∧ SqL X.K H b zs ∧ xs.length + zs.length ≤ sizeLine ∧ ∀ p, H p = none → Q (.ref p) (upd H p (.lst (xs ++ zs)))) := by
  intro pins s σ H x y v u Q I rx ry h
  obtain ⟨l, b, xs, zs, rfl, rfl, hH, hB, hz, q⟩ := h
  cases rx
  cases ry
  obtain ⟨its, r, ⟨o, n, g1, g2, g3, g4⟩, hl⟩ := I.list hH
  obtain ⟨its2, r2, ⟨o2, n2, k1, k2, k3, k4⟩, hl2⟩ := I.list hB
  have e1 := r.length
  have e2 := r2.length
  have hzz : its.toArray.size + its2.toArray.size ≤ sizeLine := by rw [List.size_toArray, List.size_toArray]; omega
  refine concat_meets ⟨_, g1, g2⟩ ⟨_, k1, k2⟩ noFill_list_add seq_list_add F.slot_list_add F.entry_list_add (F.args_list_add_2 _ _) (add_gen l b o o2 its.toArray its2.toArray n n2 g4 k4 g2 k2 hzz) ⟨g1, k1, ?_⟩
  have ea : its.toArray ++ its2.toArray = (its ++ its2).toArray := by simp
  rw [ea]
  exact ⟨.ref _, _, I.lnew (t' := s.toks) (r.append r2) (by rw [List.length_append]; omega), rfl, q _ I.fresh⟩
section
variable {C : Ctx} {M : Mm} {Ψ : AV → Mm → Prop}
/-- the items of a list -/
def lstOf (M : Mm) : AV → Option (List D)
  | .d (.lst ds) => some ds
  | .m k => match M[k]? with
    | some (.l ds) => some ds
    | _ => none
  | _ => none
def tupOf : AV → Option (List D)
  | .d (.tup ds) => some ds
  | _ => none
theorem lst_rep (wk : C.W.K = C.X.K) {S : Addr → Prop} {α : Als} {H : Hp} (em : EM C.W S α M H) : ∀ {a : AV} {v : V} {ds : List D}, lstOf M a = some ds → RepA C.W S α H a v → ∃ p vs, v = .ref p ∧ SqL C.X.K H p vs ∧ Reps C.W (Av S α) H ds vs
  | .d (.lst ds), v, es, e, r => by
    cases e
    obtain ⟨p, vs, e, t, rr⟩ := (show ∃ a vs, v = .ref a ∧ LSq C.W (Av S α) H a vs ∧ Reps C.W (Av S α) H ds vs from r)
    exact ⟨p, vs, e, wk ▸ t.sq, rr⟩
  | .m k, v, es, e, r => by
    cases q : M[k]? with
    | none => simp [lstOf, q] at e
    | some m =>
      cases m with
      | l ds =>
        have e' : ds = es := by simpa [lstOf, q] using e
        subst e'
        obtain ⟨p, vs, e, _, hh, rr⟩ := cell_l em q r
        exact ⟨p, vs, e, SqL.of hh, rr⟩
      | _ => simp [lstOf, q] at e
  | .d .non, v, es, e, r => by cases e
  | .d (.bl _), v, es, e, r => by cases e
  | .d (.int _), v, es, e, r => by cases e
  | .d (.str _), v, es, e, r => by cases e
  | .d (.tup _), v, es, e, r => by cases e
  | .d (.tw _), v, es, e, r => by cases e
  | .d (.ob _ _), v, es, e, r => by cases e
  | .d (.dk _ _), v, es, e, r => by cases e
  | .d (.fn _), v, es, e, r => by cases e
  | .d (.ty _), v, es, e, r => by cases e
theorem wo_cat (wk : C.W.K = C.X.K) {a b : AV} {ds es : List D} (ha : lstOf M a = some ds) (hb : lstOf M b = some es) (hl : ds.length + es.length ≤ 10000000)
    (h : Ψ (.m M.length) (M ++ [.l (ds ++ es)])) : WO C (binaryOp .Add) a b M Ψ := by
  refine ⟨fun S α H Q v u em r1 r2 q => ?_⟩
  obtain ⟨p, vs, e, s1, rr1⟩ := lst_rep wk em ha r1
  obtain ⟨p2, us, e2, s2, rr2⟩ := lst_rep wk em hb r2
  refine uO_of op_catG ⟨p, p2, vs, us, e, e2, s1, s2, by rw [reps_len rr1, reps_len rr2, sizeLine_eq]; omega, fun z hz => ?_⟩
  exact newM (m := .l (ds ++ es)) em q hz ⟨z, _, rfl, upd_same, reps_app (reps_new hz rr1) (reps_new hz rr2)⟩ h
/-- t + u, tuples: the new one's record is known -/
theorem op_catZ {X : Cx} : OpR X (binaryOp .Add) fun x y H Q => ∃ (a b : Addr) (xs ys : List V), x = .ref a ∧ y = .ref b ∧ SqT X.K H a xs ∧ SqT X.K H b ys ∧ xs.length + ys.length ≤ sizeLine ∧ (xs = [] → Q (.ref b) H) ∧ (xs ≠ [] → ys = [] → Q (.ref a) H) ∧
    (xs ≠ [] → ys ≠ [] → ∀ (p : Addr) (o : Obj), o.dict = none → H p = none → Q (.ref p) (upd H p (.frz o (.tup (xs ++ ys))))) := by
  intro pins s σ H x y v u Q I rx ry h
  obtain ⟨a, b, xs, ys, rfl, rfl, ha, hb, hz, q0, q1, q2⟩ := h
  cases rx
  cases ry
  obtain ⟨its, r1, p1, _⟩ := I.tuple ha
  obtain ⟨its2, r2, p2, _⟩ := I.tuple hb
  by_cases hx : xs = []
  · subst hx
    cases r1
    exact L2.cat_tup0 p1 p2 ⟨.ref b, H, I, rfl, q0 rfl⟩
  · refine HT.cat_tup p1 p2 (fun z => hx (r1.nil_iff.mp z)) (fun z => ⟨.ref a, H, I, rfl, q1 hx (r2.nil_iff.mp z)⟩) (fun z => ?_) (by rw [← r1.length, ← r2.length]; exact hz)
    have at1 : (s.heap.push { cls := .type "tuple", data := .seq (its ++ its2).toArray }).get? s.heap.objs.size = some { cls := .type "tuple", data := .seq (its ++ its2).toArray } := Heap.get?_push_size _ rfl
    exact ⟨.ref s.heap.objs.size, _, I.laid (t' := s.toks) (o := .frz { cls := .type "tuple", data := .seq (its ++ its2).toArray } (.tup (xs ++ ys))) (fun b ob q => Heap.get?_push_of_some _ q) (Nat.le_refl _) ⟨at1, by rw [List.length_append]; exact hz, _, r1.append r2, ⟨_, at1, rfl, _, rfl⟩⟩, rfl, q2 hx (fun w => z (r2.nil_iff.mpr w)) _ _ rfl (I.hok.fresh (Nat.le_refl _))⟩
/-- a tuple and a tuple -/
theorem wo_catT (wk : C.W.K = C.X.K) {ds es : List D} (hl : ds.length + es.length ≤ 10000000) (h : Ψ (.d (.tup (ds ++ es))) M) : WO C (binaryOp .Add) (.d (.tup ds)) (.d (.tup es)) M Ψ := by
  refine ⟨fun S α H Q v u em r1 r2 q => ?_⟩
  obtain ⟨p, vs, e, t1, rr1⟩ := (show ∃ a vs, v = .ref a ∧ TSq C.W (Av S α) H a vs ∧ Reps C.W (Av S α) H ds vs from r1)
  obtain ⟨p2, us, e2, t2, rr2⟩ := (show ∃ a vs, u = .ref a ∧ TSq C.W (Av S α) H a vs ∧ Reps C.W (Av S α) H es vs from r2)
  refine uO_of op_catZ ⟨p, p2, vs, us, e, e2, wk ▸ t1.sq, wk ▸ t2.sq, by rw [reps_len rr1, reps_len rr2, sizeLine_eq]; omega, fun h0 => ?_, fun _ h0 => ?_, fun _ _ z oz hoz hz => ?_⟩
  · subst h0
    have : ds = [] := List.eq_nil_of_length_eq_zero (by rw [← reps_len rr1]; rfl)
    subst this
    exact stayE (a := .d (.tup es)) em q ⟨p2, us, rfl, t2, rr2⟩ h
  · subst h0
    have : es = [] := List.eq_nil_of_length_eq_zero (by rw [← reps_len rr2]; rfl)
    subst this
    rw [List.append_nil] at h
    exact stayE (a := .d (.tup ds)) em q ⟨p, vs, rfl, t1, rr1⟩ h
  · refine newE (x := .tup (ds ++ es)) (v := .ref z) (o := .frz oz (.tup (vs ++ us))) em q hz ⟨z, vs ++ us, rfl, TSq.of (em.off hz) hoz upd_same, ?_⟩ h
    exact reps_same (same_new hz) (reps_app rr1 rr2)
theorem reps_erase {W : Wd} {S : Addr → Prop} {H : Hp} : ∀ {ds : List D} {vs : List V} (j : Nat), Reps W S H ds vs → Reps W S H (ds.eraseIdx j) (vs.eraseIdx j)
  | [], vs, j, r => by rw [show vs = [] from r]; exact reps_nil
  | d :: ds, vs, j, r => by
    obtain ⟨v, t, e, h1, h2⟩ := (show ∃ v t, vs = v :: t ∧ Rep W S H d v ∧ Reps W S H ds t from r)
    subst e
    cases j with
    | zero => exact h2
    | succ j => exact reps_cons h1 (reps_erase j h2)
/-- xs.pop(i) -/
theorem wm_popAt {k : Nat} {ds : List D} {i : Int} {j : Nat} {d : D} (hk : M[k]? = some (.l ds)) (hi : ixN ds.length i = some j) (hb : -(2 ^ 63) ≤ i ∧ i < 2 ^ 63) (hd : ds[j]? = some d) (h : Ψ (.d d) (M.set k (.l (ds.eraseIdx j)))) : WM C "list.pop" (.m k) [.d (.int i)] M Ψ := by
  refine ⟨fun S α H Q v vs em r1 r2 q => ?_⟩
  obtain ⟨p, us, e, ha, hh, rr⟩ := cell_l em hk r1
  obtain ⟨y, e2, h2⟩ := reps1 r2
  obtain ⟨w', hw, rz⟩ := reps_get rr hd
  refine uM_of mt_popAt ⟨p, us, i, j, w', e, by rw [e2, show y = .int i from h2], hh, hb.1, hb.2, by rw [reps_len rr]; exact (ixN_seq hi).1, hw, ?_⟩
  obtain ⟨em', g'⟩ := em.put (o := .lst (us.eraseIdx j)) (m' := .l (ds.eraseIdx j)) ha ⟨p, _, rfl, upd_same, reps_put ha (reps_erase j rr)⟩
  exact q _ _ [] _ _ h (by rw [app_nil]; exact em') g' (by show Rep C.W (Av S (α ++ [])) _ d _; rw [app_nil]; exact rep_put ha rz)
theorem reps_ints {W : Wd} {S : Addr → Prop} {H : Hp} : ∀ {ns : List Int} {vs : List V}, Reps W S H (ns.map .int) vs → vs = ns.map V.int
  | [], vs, r => r
  | n :: ns, vs, r => by
    obtain ⟨v, t, e, h1, h2⟩ := (show ∃ v t, vs = v :: t ∧ Rep W S H (.int n) v ∧ Reps W S H (ns.map .int) t from r)
    rw [e, reps_ints h2, show v = .int n from h1]; rfl
/-- xs.index(x), ints -/
theorem wm_indexI (wk : C.W.K = C.X.K) {a : AV} {ns : List Int} {x : Int} {j : Nat} (hs : lstOf M a = some (ns.map .int)) (hj : ns[j]? = some x) (hno : ∀ m : Nat, m < j → ns[m]? ≠ some x) (h : Ψ (.d (.int (j : Nat))) M) : WM C "list.index" a [.d (.int x)] M Ψ := by
  refine ⟨fun S α H Q v vs em r1 r2 q => ?_⟩
  obtain ⟨p, us, e, sq, rr⟩ := lst_rep wk em hs r1
  have eu := reps_ints rr
  subst eu
  obtain ⟨y, e2, h2⟩ := reps1 r2
  have ey : y = .int x := h2
  subst ey
  refine uM_of mt_index ⟨p, _, .int x, j, .int x, e, e2, sq, rfl, ?_, by rw [List.getElem?_map, hj]; rfl, by simp [eqV], fun m z' hm hz => ?_, ?_⟩
  · rw [List.all_eq_true]; intro z hz; obtain ⟨n, _, rfl⟩ := List.mem_map.mp hz; rfl
  · rw [List.getElem?_map] at hz
    cases hn : ns[m]? with
    | none => rw [hn] at hz; cases hz
    | some n =>
      rw [hn] at hz
      cases hz
      have : n ≠ x := fun e => hno m hm (by rw [hn, e])
      simp [eqV, this]
  · exact stayE (a := .d (.int (j : Nat))) (v := .int (j : Nat)) em q rfl h
theorem inV_ints {x : Int} : ∀ {ns : List Int}, inV (.int x) (ns.map V.int) = decide (x ∈ ns)
  | [] => by simp [inV]
  | n :: ns => by
    have ih := inV_ints (x := x) (ns := ns)
    unfold inV at ih ⊢
    simp only [List.map_cons, List.any_cons, ih]
    by_cases h : x = n
    · subst h; simp [eqV]
    · have h2 : n ≠ x := fun e => h e.symm
      simp [eqV, h, h2]
theorem flat_ints {ns : List Int} : (ns.map V.int).all flatV = true := by
  rw [List.all_eq_true]; intro z hz; obtain ⟨n, _, rfl⟩ := List.mem_map.mp hz; rfl
/-- x in xs, ints -/
theorem wo_inI (wk : C.W.K = C.X.K) {a : AV} {ns : List Int} {x : Int} (hs : seqOf M a = some (ns.map .int)) (h : Ψ (.d (.bl (decide (x ∈ ns)))) M) : WO C (compareOp .In) (.d (.int x)) a M Ψ := by
  refine ⟨fun S α H Q v u em r1 r2 q => ?_⟩
  obtain ⟨p, us, e, sq, rr⟩ := seq_rep wk em hs r2
  have eu := reps_ints rr
  subst eu
  refine uO_of op_in_seq ⟨p, _, e, sq, by rw [show v = .int x from r1]; rfl, flat_ints, ?_⟩
  rw [if_neg Bool.false_ne_true, show v = .int x from r1, inV_ints]
  exact stayE (a := .d (.bl (decide (x ∈ ns)))) (v := .bl (decide (x ∈ ns))) em q rfl h
theorem wo_notinI (wk : C.W.K = C.X.K) {a : AV} {ns : List Int} {x : Int} (hs : seqOf M a = some (ns.map .int)) (h : Ψ (.d (.bl (!decide (x ∈ ns)))) M) : WO C (compareOp .NotIn) (.d (.int x)) a M Ψ := by
  refine ⟨fun S α H Q v u em r1 r2 q => ?_⟩
  obtain ⟨p, us, e, sq, rr⟩ := seq_rep wk em hs r2
  have eu := reps_ints rr
  subst eu
  refine uO_of op_notIn_seq ⟨p, _, e, sq, by rw [show v = .int x from r1]; rfl, flat_ints, ?_⟩
  rw [if_pos rfl, show v = .int x from r1, inV_ints]
  exact stayE (a := .d (.bl (!decide (x ∈ ns)))) (v := .bl (!decide (x ∈ ns))) em q rfl h
end
/-! ### == of data without instances -/
mutual
def pyD : D → Option PyData
  | .non => some .none
  | .bl b => some (.bool b)
  | .int i => some (.int i)
  | .str x => some (.str x)
  | .lst ds => (pyDs ds).map .list
  | .tup ds => (pyDs ds).map .tuple
  | .ob _ _ => none
  | .dk _ _ => none
  | .tw _ => none
  | .fn _ => none
  | .ty _ => none
def pyDs : List D → Option (List PyData)
  | [] => some []
  | d :: r => match pyD d, pyDs r with
    | some x, some xs => some (x :: xs)
    | _, _ => none
end
mutual
theorem dp_of {W : Wd} {S : Addr → Prop} {H : Hp} : ∀ {d : D} {v : V} {x : PyData}, pyD d = some x → Rep W S H d v → Dp W.K H v x
  | .non, v, x, e, r => by cases e; rw [show v = .non from r]; exact .non
  | .bl b, v, x, e, r => by cases e; rw [show v = .bl b from r]; exact .bl b
  | .int b, v, x, e, r => by cases e; rw [show v = .int b from r]; exact .int b
  | .str b, v, x, e, r => by cases e; rw [show v = .str b from r]; exact .str b
  | .lst ds, v, x, e, r => by
    obtain ⟨p, vs, ev, t, rr⟩ := (show ∃ a vs, v = .ref a ∧ LSq W S H a vs ∧ Reps W S H ds vs from r)
    unfold pyD at e
    cases q : pyDs ds with
    | none => rw [q] at e; cases e
    | some xs => rw [q] at e; cases e; rw [ev]; exact .lst t.sq (dps_of q rr)
  | .tup ds, v, x, e, r => by
    obtain ⟨p, vs, ev, t, rr⟩ := (show ∃ a vs, v = .ref a ∧ TSq W S H a vs ∧ Reps W S H ds vs from r)
    unfold pyD at e
    cases q : pyDs ds with
    | none => rw [q] at e; cases e
    | some xs => rw [q] at e; cases e; rw [ev]; exact .tup t.sq (dps_of q rr)
  | .ob _ _, _, _, e, _ => by cases e
  | .dk _ _, _, _, e, _ => by cases e
  | .tw _, _, _, e, _ => by cases e
  | .fn _, _, _, e, _ => by cases e
  | .ty _, _, _, e, _ => by cases e
theorem dps_of {W : Wd} {S : Addr → Prop} {H : Hp} : ∀ {ds : List D} {vs : List V} {xs : List PyData}, pyDs ds = some xs → Reps W S H ds vs → DpAll W.K H vs xs
  | [], vs, xs, e, r => by cases e; rw [show vs = [] from r]; exact .nil
  | d :: ds, vs, xs, e, r => by
    obtain ⟨v, t, ev, h1, h2⟩ := (show ∃ v t, vs = v :: t ∧ Rep W S H d v ∧ Reps W S H ds t from r)
    unfold pyDs at e
    cases q1 : pyD d with
    | none => rw [q1] at e; cases e
    | some x =>
      cases q2 : pyDs ds with
      | none => rw [q1, q2] at e; cases e
      | some ys => rw [q1, q2] at e; cases e; rw [ev]; exact .cons (dp_of q1 h1) (dps_of q2 h2)
end
/-- a value or a list of the store, as plain data -/
def pyA (M : Mm) : AV → Option PyData
  | .d x => pyD x
  | .m k => match M[k]? with
    | some (.l ds) => (pyDs ds).map .list
    | _ => none
section
variable {P : Program} {w : World} {K : PySem.W.Frag} {mg : Str → Option Value} {base : Heap} {N gs : List Str} {Vi Li : List Nat} {k : Nat}
variable {C : Ctx} {M : Mm} {Ψ : AV → Mm → Prop}
theorem dpA_of {S : Addr → Prop} {α : Als} {H : Hp} (em : EM C.W S α M H) : ∀ {a : AV} {v : V} {x : PyData}, pyA M a = some x → RepA C.W S α H a v → Dp C.W.K H v x
  | .d d, v, x, e, r => dp_of e r
  | .m j, v, x, e, r => by
    cases q : M[j]? with
    | none => simp [pyA, q] at e
    | some m =>
      cases m with
      | l ds =>
        obtain ⟨p, vs, ev, _, hh, rr⟩ := cell_l em q r
        cases q2 : pyDs ds with
        | none => simp [pyA, q, q2] at e
        | some xs =>
          have e' : PyData.list xs = x := by simpa [pyA, q, q2] using e
          subst e'
          rw [ev]; exact .lst (SqL.of hh) (dps_of q2 rr)
      | _ => simp [pyA, q] at e
theorem wo_eqD (wk : C.W.K = C.X.K) (hu : C.X.A.units + 64 < cLine) {a b : AV} {x y : PyData} (ha : pyA M a = some x) (hb : pyA M b = some y) (sx : SeqAt.shaped x = true) (sy : SeqAt.shaped y = true) (h : Ψ (.d (.bl (PyData.eqv x y))) M) : WO C (compareOp .Eq) a b M Ψ :=
  ⟨fun S α H Q v u em r1 r2 q => uO_of (op_eqD hu) ⟨x, y, wk ▸ dpA_of em ha r1, wk ▸ dpA_of em hb r2, sx, sy, stayE (a := .d (.bl (PyData.eqv x y))) (v := .bl (PyData.eqv x y)) em q rfl h⟩⟩
theorem wo_neD (wk : C.W.K = C.X.K) (hu : C.X.A.units + 64 < cLine) {a b : AV} {x y : PyData} (ha : pyA M a = some x) (hb : pyA M b = some y) (sx : SeqAt.shaped x = true) (sy : SeqAt.shaped y = true) (h : Ψ (.d (.bl (!PyData.eqv x y))) M) : WO C (compareOp .NotEq) a b M Ψ :=
  ⟨fun S α H Q v u em r1 r2 q => uO_of (op_neD hu) ⟨x, y, wk ▸ dpA_of em ha r1, wk ▸ dpA_of em hb r2, sx, sy, stayE (a := .d (.bl (!PyData.eqv x y))) (v := .bl (!PyData.eqv x y)) em q rfl h⟩⟩
end
end Dl

/-! DLE: list(range(n)), sorted of ints. -/
namespace Dl
open PySem L2
section
variable {C : Ctx} {a : Expr} {ρ : Rho} {M : Mm} {Ψ : AV → Mm → Prop} {pos p p2 pos2 : Pos}
def rgD (n : Int) : List D := (List.range n.toNat).map fun i => .int (i : Nat)
theorem reps_rg {W : Wd} {S : Addr → Prop} {H : Hp} {n : Int} : Reps W S H (rgD n) (rgV 0 n) := by
  unfold rgD rgV
  rw [Int.sub_zero]
  have go : ∀ l : List Nat, Reps W S H (l.map fun i => D.int (i : Nat)) (l.map fun i => V.int (0 + (i : Nat))) := by
    intro l
    induction l with
    | nil => exact reps_nil
    | cons i l ih => exact reps_cons (show V.int (0 + (i : Nat)) = .int (i : Nat) by rw [Int.zero_add]) ih
  exact go _
theorem we_listR (hc : C.X.calm = true) (B1 : Bt C.X "list" "list") (B2 : Bt C.X "range" "range")
    (h : WE C a ρ M fun v M1 => ∃ n : Int, v = .d (.int n) ∧ (-1000000 ≤ n ∧ n ≤ 1000000) ∧ Ψ (.m M1.length) (M1 ++ [.l (rgD n)]))
    (na : starEach [.Call (.Name "range" p2) [a] [] pos2] C.X.env = (false, eval (.Call (.Name "range" p2) [a] [] pos2) C.X.env) :: starEach [] C.X.env := by rfl)
    (nb : starEach [a] C.X.env = (false, eval a C.X.env) :: starEach [] C.X.env := by rfl) :
    WE C (.Call (.Name "list" p) [.Call (.Name "range" p2) [a] [] pos2] [] pos) ρ M Ψ := by
  refine ⟨fun S α0 H0 α σ H Q bs g ev q => uE_of (pe_listRg hc B1.gl B1.mg (prg_1 B2.gl B2.mg pe_u nb) na) ?_⟩
  refine h.run S α0 H0 α σ H _ bs g ev fun v M1 β u H1 p1 em1 g1 r1 => ?_
  obtain ⟨n, e, ⟨h1, h2⟩, hh⟩ := p1
  subst e
  refine ⟨n, r1, ⟨by omega, by omega, by omega, by omega, by omega⟩, fun z hz => ?_⟩
  exact newM (m := .l (rgD n)) em1 (thnE q g1) hz ⟨z, _, rfl, upd_same, reps_rg⟩ hh
theorem reps_ofInts {W : Wd} {S : Addr → Prop} {H : Hp} : ∀ ns : List Int, Reps W S H (ns.map .int) (ns.map V.int)
  | [] => reps_nil
  | n :: ns => reps_cons (show V.int n = .int n from rfl) (reps_ofInts ns)
/-- sorted(xs), ints in a list -/
theorem wc_sortedI (wk : C.W.K = C.X.K) {x : AV} {ns : List Int} (hs : lstOf M x = some (ns.map .int)) (h : ∀ ns' : List Int, ns'.Perm ns → ns'.Pairwise (· ≤ ·) → Ψ (.m M.length) (M ++ [.l (ns'.map .int)])) : WC C (.builtin "sorted") [x] M Ψ := by
  refine ⟨fun S α H Q vs em r q => ?_⟩
  obtain ⟨v, e, h1⟩ := reps1 r
  obtain ⟨b, us, e2, sq, rr⟩ := lst_rep wk em hs h1
  have eu := reps_ints rr
  subst eu
  refine uC_of cr_sortedI ⟨b, ns, by rw [e, e2], sq, fun ns' z hp ho hz => ?_⟩
  exact newM (m := .l (ns'.map .int)) em q hz ⟨z, _, rfl, upd_same, reps_ofInts ns'⟩ (h ns' hp ho)
theorem reps_bls {W : Wd} {S : Addr → Prop} {H : Hp} : ∀ {ns : List Bool} {vs : List V}, Reps W S H (ns.map .bl) vs → vs = ns.map V.bl
  | [], vs, r => r
  | n :: ns, vs, r => by
    obtain ⟨v, t, e, h1, h2⟩ := (show ∃ v t, vs = v :: t ∧ Rep W S H (.bl n) v ∧ Reps W S H (ns.map .bl) t from r)
    rw [e, reps_bls h2, show v = .bl n from h1]; rfl
theorem wc_sum (hc : C.X.calm = true) (wk : C.W.K = C.X.K) {x : AV} {ns : List Int} (hs : lstOf M x = some (ns.map .int)) (h : Ψ (.d (.int ns.sum)) M) : WC C (.builtin "sum") [x] M Ψ := by
  refine ⟨fun S α H Q vs em r q => ?_⟩
  obtain ⟨v, e, h1⟩ := reps1 r
  obtain ⟨b, us, e2, sq, rr⟩ := lst_rep wk em hs h1
  have eu := reps_ints rr
  subst eu
  exact uC_of (cr_sum hc) ⟨b, ns, by rw [e, e2], sq, stayE (a := .d (.int ns.sum)) (v := .int ns.sum) em q rfl h⟩
theorem wc_any (hc : C.X.calm = true) (wk : C.W.K = C.X.K) {x : AV} {ns : List Bool} (hs : lstOf M x = some (ns.map .bl)) (h : Ψ (.d (.bl (ns.any id))) M) : WC C (.builtin "any") [x] M Ψ := by
  refine ⟨fun S α H Q vs em r q => ?_⟩
  obtain ⟨v, e, h1⟩ := reps1 r
  obtain ⟨b, us, e2, sq, rr⟩ := lst_rep wk em hs h1
  have eu := reps_bls rr
  subst eu
  exact uC_of (cr_any hc) ⟨b, ns, by rw [e, e2], sq, stayE (a := .d (.bl (ns.any id))) (v := .bl (ns.any id)) em q rfl h⟩
theorem wc_all (hc : C.X.calm = true) (wk : C.W.K = C.X.K) {x : AV} {ns : List Bool} (hs : lstOf M x = some (ns.map .bl)) (h : Ψ (.d (.bl (ns.all id))) M) : WC C (.builtin "all") [x] M Ψ := by
  refine ⟨fun S α H Q vs em r q => ?_⟩
  obtain ⟨v, e, h1⟩ := reps1 r
  obtain ⟨b, us, e2, sq, rr⟩ := lst_rep wk em hs h1
  have eu := reps_bls rr
  subst eu
  exact uC_of (cr_all hc) ⟨b, ns, by rw [e, e2], sq, stayE (a := .d (.bl (ns.all id))) (v := .bl (ns.all id)) em q rfl h⟩
end
end Dl

/-! DLF: slices of lists. -/
namespace Dl
open PySem L2
def cutA {α : Type} (xs : List α) (lo hi : Option Int) : List α := (xs.drop (HT.sIx xs.length 0 lo)).take (HT.sIx xs.length xs.length hi - HT.sIx xs.length 0 lo)
def WPart (C : Ctx) (o : Option Expr) (ρ : Rho) (M : Mm) (Ψ : Option Int → Mm → Prop) : Prop := match o with
  | none => Ψ none M
  | some e => WE C e ρ M fun x M1 => ∃ i, x = .d (.int i) ∧ Ψ (some i) M1
def uPart (X : Cx) (o : Option Expr) : TO := match o with
  | none => tNoPart
  | some e => tPart (uE X e)
theorem po_u {X : Cx} : ∀ {o : Option Expr}, PO X o (uPart X o)
  | none => po_none
  | some _ => po_some pe_u
section
variable {C : Ctx} {e : Expr} {lo hi : Option Expr} {ρ : Rho} {M : Mm} {Ψ : AV → Mm → Prop} {pos p2 : Pos}
theorem part_run {o : Option Expr} {Ψ : Option Int → Mm → Prop} (h : WPart C o ρ M Ψ) {S : Addr → Prop} {α0 α : Als} {H0 H : Hp} {σ : L2.St} {Q : Option Int → Hp → Prop} (bs : Bs C S α0 H0) (g : Gr0 α0 α H0 H) (ev : Ev C.W S α ρ M σ H)
    (q : ∀ o M' β H', Ψ o M' → EM C.W S (α ++ β) M' H' → Gr α β H H' → Q o H') : uPart C.X o σ H Q := by
  cases o with
  | none => exact q none M [] H h (by rw [app_nil]; exact ev.em) Gr.refl
  | some e =>
    show uE C.X e σ H fun x H1 => ∃ i, x = .int i ∧ Q (some i) H1
    refine (show WE C e ρ M _ from h).run S α0 H0 α σ H _ bs g ev fun x M1 β v H1 p1 em1 g1 r1 => ?_
    obtain ⟨i, e, hh⟩ := p1
    subst e
    exact ⟨i, r1, q (some i) M1 β H1 hh em1 g1⟩
theorem reps_takeN {W : Wd} {S : Addr → Prop} {H : Hp} : ∀ {ds : List D} {vs : List V} (n : Nat), Reps W S H ds vs → Reps W S H (ds.take n) (vs.take n)
  | [], vs, n, r => by rw [show vs = [] from r]; simp; exact reps_nil
  | d :: ds, vs, 0, r => by simp; exact reps_nil
  | d :: ds, vs, n + 1, r => by
    obtain ⟨v, t, e, h1, h2⟩ := (show ∃ v t, vs = v :: t ∧ Rep W S H d v ∧ Reps W S H ds t from r)
    subst e
    exact reps_cons h1 (reps_takeN n h2)
theorem reps_dropN {W : Wd} {S : Addr → Prop} {H : Hp} : ∀ {ds : List D} {vs : List V} (n : Nat), Reps W S H ds vs → Reps W S H (ds.drop n) (vs.drop n)
  | [], vs, n, r => by rw [show vs = [] from r]; simp; exact reps_nil
  | d :: ds, vs, 0, r => r
  | d :: ds, vs, n + 1, r => by
    obtain ⟨v, t, e, h1, h2⟩ := (show ∃ v t, vs = v :: t ∧ Rep W S H d v ∧ Reps W S H ds t from r)
    subst e
    exact reps_dropN n h2
theorem we_sliceL (wk : C.W.K = C.X.K) (h : WE C e ρ M fun v M1 => WPart C lo ρ M1 fun l M2 => WPart C hi ρ M2 fun u M3 => ∃ ds, lstOf M3 v = some ds ∧ Ψ (.m M3.length) (M3 ++ [.l (cutA ds l u)])) :
    WE C (.Subscript e (.Slice lo hi none p2) pos) ρ M Ψ := by
  refine ⟨fun S α0 H0 α σ H Q bs g ev q => uE_of (pe_slice sl_list pe_u po_u po_u) ?_⟩
  refine h.run S α0 H0 α σ H _ bs g ev fun v M1 β1 x H1 p1 em1 g1 r1 => ?_
  refine part_run p1 bs (g.trans g1) (ev.up g1 em1) fun l M2 β2 H2 p2 em2 g2 => ?_
  refine part_run p2 bs ((g.trans g1).trans g2) ((ev.up g1 em1).up g2 em2) fun u M3 β3 H3 p3 em3 g3 => ?_
  obtain ⟨ds, hs, hh⟩ := p3
  obtain ⟨a, vs, e, sq, rr⟩ := lst_rep wk em3 hs ((r1.up g2).up g3)
  refine ⟨a, vs, e, sq, fun z hz => ?_⟩
  refine newM (m := .l (cutA ds l u)) em3 (thnE (thnE (thnE q g1) g2) g3) hz ⟨z, _, rfl, upd_same, ?_⟩ hh
  have hl := reps_len rr
  unfold cutA cutV
  rw [hl]
  exact reps_takeN _ (reps_dropN _ (reps_new hz rr))
end
end Dl

/-! DLG: for i, x in enumerate(xs), xs a value. -/
namespace Dl
open PySem L2
section
variable {P : Program} {w : World} {K : PySem.W.Frag} {mg : Str → Option Value} {base : Heap} {N gs : List Str} {Vi Li : List Nat} {k : Nat}
variable {C : Ctx} {a : Expr} {ρ : Rho} {M : Mm} {Φ : Kn} {pos pos' p : Pos}
theorem w1_forE {elts : List Expr} {kk ix : Nat} {tpos : Pos} {body : List Stmt} (ok : Cok C P w K mg base N gs Vi Li k) (hN : gs[ix]? = some ("enumerate" : Str)) (hm : mg "enumerate" = none) (own : PassesOwn (model C.X.prog C.X.w) C.X.A C.X.env C.X.xe)
    (h : WE C a ρ M fun v M1 => ∃ ds, v = .d (.lst ds) ∧ ∃ Iv : Nat → Rho → Mm → Prop, Iv 0 ρ M1 ∧
      (∀ (i : Nat) d ρ' M', i < ds.length → ds[i]? = some d → Iv i ρ' M' → WG C (.Tuple elts kk tpos) (.d (.tw [.int (i : Nat), d])) ρ' M' fun ρ2 M2 => WS (C.at M1.length) body ρ2 M2 (Φ.out C.n0 (Iv (i + 1)))) ∧ ∀ ρ' M', Iv ds.length ρ' M' → Φ.nx ρ' M')
    (hs : starEach [a] C.X.env = [(false, eval a C.X.env)] := by rfl) (hs1 : starEach [a] C.X.env = (false, eval a C.X.env) :: starEach [] C.X.env := by rfl)
    (hf : ∀ x, foldedSetIterable (.Call (.Name "enumerate" p) [a] [] pos') C.X.env x = pure x := by intro _; rfl) :
    W1 C (.For (.Tuple elts kk tpos) (.Call (.Name "enumerate" p) [a] [] pos') body [] pos) ρ M Φ := by
  refine ⟨fun S α0 H0 α σ H D bs g ev f => uS_of (ps_for own ok.calm (pi_enum (ok.gl ix _ hN) (by rw [ok.mgE]; exact hm) (pa_cons pe_u pa_nil hs1) hs) pg_u pss_u hf) ?_⟩
  refine h.run S α0 H0 α σ H _ bs g ev fun v M1 β u H1 p1 em1 g1 r1 => ?_
  obtain ⟨ds, e, Iv, h0, h1, h2⟩ := p1
  subst e
  obtain ⟨q1, vs, e1, t, rr⟩ := (show ∃ a vs, u = .ref a ∧ LSq C.W (Av S (α ++ β)) H1 a vs ∧ Reps C.W (Av S (α ++ β)) H1 ds vs from r1)
  have l1 := reps_len rr
  have sq1 : SqL C.X.K H1 q1 vs := ok.wk ▸ t.sq
  refine ⟨q1, vs, by rw [e1], sq1, ?_⟩
  refine for_core bs (g.trans g1) (ev.up g1 em1) f (G := fun _ H' => SqL C.X.K H' q1 vs) (n := ds.length) (ds := fun i => (ds[i]?).map fun d => .tw [.int (i : Nat), d])
    ⟨fun i α' H' hi s1 => ⟨vs, vs[i]'(by omega), s1, List.getElem?_eq_getElem _⟩, fun α' H' s1 => ⟨vs, s1, by omega⟩, fun i α' H' x H'' M' hi s1 gg em y => ?_⟩ Iv h0
    (fun i ρ' M' α' σ' H' _ _ _ gg => ok.wk ▸ t.on gg) (fun i d ρ' M' hi e hI => ?_) h2
  · obtain ⟨T, x1, ex, hT, eH, y1⟩ := (show ∃ T x1, x = .ref T ∧ H' T = none ∧ H'' = upd H' T (.tup [.int (i : Nat), x1]) ∧ ∀ xs, SqL C.X.K H' q1 xs → xs[i]? = some x1 from y)
    obtain ⟨d1, z1, z2⟩ := reps_get' rr (y1 vs s1)
    obtain ⟨γ, eγ, gγ⟩ := gg
    subst eγ
    subst eH
    refine ⟨same_new hT, .tw [.int (i : Nat), d1], by simp [z1], ?_⟩
    refine ⟨T, [.int (i : Nat), x1], ex, TSw.of (em.off hT) upd_same, ?_⟩
    exact reps_same (same_new hT) (reps_cons (show V.int (i : Nat) = .int (i : Nat) from rfl) (reps_cons (z2.up gγ) reps_nil))
  · have e1' : ds[i]? = some (ds[i]'(by omega)) := List.getElem?_eq_getElem _
    rw [e1'] at e
    cases e
    exact h1 i _ ρ' M' hi e1' hI
end
end Dl

/-! DLH: what is walked, as one judgement; for and comprehensions over it. -/
namespace Dl
open PySem L2
def uY (X : Cx) (tg iter : Expr) : TI := fun σ H R => ∀ pins s, Inv X pins σ H s → wpAny (model X.prog X.w) X.A (eval iter X.env) (fun v s1 => wpAny (model X.prog X.w) X.A (pyIter v) (PIE X pins σ tg R) X.xe s1) X.xe s
theorem pi_u {X : Cx} {tg iter : Expr} : PI X tg iter (uY X tg iter) := ⟨fun pins s _ _ _ I h => h pins s I⟩
theorem uY_of {X : Cx} {tg iter : Expr} {wi : TI} {σ : L2.St} {H : Hp} {R : It → Hp → Prop} (p : PI X tg iter wi) (h : wi σ H R) : uY X tg iter σ H R := fun pins s I => p.run pins s σ H R I h
section
open PySem.Spec PyProof.Rows
theorem pi_zipX {X : Cx} {e e2 : Expr} {ta : TA} {p pos tpos : Pos} {elts : List Expr} {kk : Nat} (hg : Gl X "zip") (hm : X.mg "zip" = none) (ha : PA X [e, e2] ta)
    (hs : starEach [e, e2] X.env = (false, eval e X.env) :: starEach [e2] X.env := by rfl) (hpl : (backTo pos (starEach [e2] X.env)).any (·.1) = false := by rfl) :
    PI X (.Tuple elts kk tpos) (.Call (.Name "zip" p) [e, e2] [] pos) fun σ H R => ta σ H fun vs H1 => ∃ t1 t2 a b xs ys, vs = [.ref a, .ref b] ∧ SqB t1 X.K H1 a xs ∧ SqB t2 X.K H1 b ys ∧ R (ItzG t1 t2 X.K a b) H1 := by
  refine ⟨fun pins s σ H R I h => ?_⟩
  refine PyProof.Rows.Call_ (ld_blt I hg hm PyProof.Rows.boot_zip (PyProof.Rows.callWith_type1 (thn (ha.run pos pins s σ H _ I h) fun us s1 ⟨vs, H1, I1, r1, q1⟩ => ?_) hs hpl))
  obtain ⟨t1, t2, a, b, xs, ys, ex, hqx, hqy, q⟩ := q1
  subst ex
  cases r1 with
  | cons r rr =>
    cases rr with
    | cons r' rr =>
      cases rr
      cases r
      cases r'
      obtain ⟨its, rv, p1, la⟩ := invB I1 hqx
      obtain ⟨its2, rv2, p2, lb⟩ := invB I1 hqy
      refine zip_begins2 (beginsB t1 a its.toArray) (beginsB t2 b its2.toArray) p1 p2 fun h' hz hTI hTO h1 h2 hsz hk => wpAny_pyIter_zip hz ?_
      have I2 : Inv X pins σ H1 { s1 with heap := h' } := I1.kept (t' := s1.toks) hk
      have sep : ZipSep2 (s1.heap.objs.size + 4) (s1.heap.objs.size + 2) (s1.heap.objs.size + 3) s1.heap.objs.size (s1.heap.objs.size + 1) [s1.heap.objs.size, a] [s1.heap.objs.size + 1, b] :=
        zip_sep2 (fp1 := [a]) (fp2 := [b]) (fun c hc => by simp at hc; rw [hc]; exact la) (fun c hc => by simp at hc; rw [hc]; exact lb)
      refine ⟨s1.heap.objs.size + 4, [s1.heap.objs.size + 4, s1.heap.objs.size + 2, s1.heap.objs.size + 3, s1.heap.objs.size, s1.heap.objs.size + 1], _, _, H1, rfl, I2, turn_zipG sep (Nat.ne_of_lt la) (Nat.ne_of_lt (Nat.lt_succ_of_lt lb)), ⟨hz, hTI, ⟨_, _, hTO⟩, itO_at h1, itO_at h2⟩, fun c hcm => ?_, q⟩
      have e' : c = s1.heap.objs.size + 4 ∨ c = s1.heap.objs.size + 2 ∨ c = s1.heap.objs.size + 3 ∨ c = s1.heap.objs.size ∨ c = s1.heap.objs.size + 1 := by simpa using hcm
      have hle : s1.heap.objs.size ≤ c := by
        rcases e' with z | z | z | z | z
        · rw [z]; exact Nat.le_add_right _ _
        · rw [z]; exact Nat.le_add_right _ _
        · rw [z]; exact Nat.le_add_right _ _
        · rw [z]; exact Nat.le_refl _
        · rw [z]; exact Nat.le_add_right _ _
      exact I1.fpOk hle (I1.hok.fresh hle)

end
abbrev PostY (C : Ctx) (S : Addr → Prop) (α : Als) (H : Hp) (Ψ : List D → Mm → Prop) (R : It → Hp → Prop) : Prop :=
  ∀ ds M' β J H' G, Ψ ds M' → EM C.W S (α ++ β) M' H' → Gr α β H H' → Yl C S (α ++ β) H' J ds.length (fun i => ds[i]?) G → (∀ α' H2, Gr0 (α ++ β) α' H' H2 → G α' H2) → R J H'
/-- what is walked: the items ds -/
structure WY (C : Ctx) (tg iter : Expr) (ρ : Rho) (M : Mm) (Ψ : List D → Mm → Prop) : Prop where
  run : ∀ S α0 H0 α σ H (R : It → Hp → Prop), Bs C S α0 H0 → Gr0 α0 α H0 H → Ev C.W S α ρ M σ H → PostY C S α H Ψ R → uY C.X tg iter σ H R
/-- a target within a block -/
structure WGw (C : Ctx) (scope : Scope) (vs : List Nat) (tg : Expr) (d : D) (ρ : Rho) (Ψ : Rho → Prop) : Prop where
  run : ∀ X', BkX C scope X' → ∀ S α M σ H (Q : L2.St → Hp → Prop) v, Ev C.W S α ρ M σ H → Rep C.W (Av S α) H d v →
    (∀ ρ' σ', Ψ ρ' → L2.wipe σ' vs = L2.wipe σ vs → Ev C.W S α ρ' M σ' H → Q σ' H) → uG X' tg v σ H Q
structure WGws (C : Ctx) (scope : Scope) (vs : List Nat) (ts : List Expr) (ds : List D) (ρ : Rho) (Ψ : Rho → Prop) : Prop where
  run : ∀ X', BkX C scope X' → ∀ S α M σ H (Q : L2.St → Hp → Prop) us, Ev C.W S α ρ M σ H → Reps C.W (Av S α) H ds us →
    (∀ ρ' σ', Ψ ρ' → L2.wipe σ' vs = L2.wipe σ vs → Ev C.W S α ρ' M σ' H → Q σ' H) → uGs X' ts us σ H Q
theorem wipe_put {j : Nat} {y : Option V} {vs : List Nat} {σ : L2.St} (h : j ∈ vs) : L2.wipe (σ.set j y) vs = L2.wipe σ vs := by
  apply List.ext_getElem?
  intro i
  by_cases hv : i ∈ vs
  · exact wipe_in (by rw [List.length_set]) hv
  · rw [wipe_out hv, wipe_out hv, List.getElem?_set_ne (fun e : j = i => hv (by rw [← e]; exact h))]
section
variable {P : Program} {w : World} {K : PySem.W.Frag} {mg : Str → Option Value} {base : Heap} {N gs : List Str} {Vi Li : List Nat} {k : Nat}
variable {C : Ctx} {e a b elt iter tg : Expr} {es : List Expr} {ρ : Rho} {M : Mm} {Φ : Kn} {Ψ : AV → Mm → Prop} {x : Str} {pos p pos' px : Pos} {scope : Scope} {own : List (Str × Nat)} {j : Nat} {vs : List Nat}
theorem wgw_n {d : D} {Ψ : Rho → Prop} (ok : Cok C P w K mg base N gs Vi Li k) (hj : N[j]? = some x) (hx : scope.names.lookup x = some .local) (hv : j ∈ vs) (h : Ψ (ρ.set j (some (.d d)))) : WGw C scope vs (.Name x px) d ρ Ψ := by
  refine ⟨fun X' hX S α M σ H Q v ev r q => ?_⟩
  obtain ⟨s, H1, A, cl, fp, rfl⟩ := hX
  exact uG_of (pg_bk ok hj hx) (q _ _ h (wipe_put hv) (ev.set j r))
theorem wgws_nil {Ψ : Rho → Prop} (h : Ψ ρ) : WGws C scope vs [] [] ρ Ψ :=
  ⟨fun X' hX S α M σ H Q us ev r q => uGs_of pgs_nil ⟨r, q ρ σ h rfl ev⟩⟩
theorem wgws_cons {d : D} {ds : List D} {Ψ : Rho → Prop} (h : WGw C scope vs e d ρ fun ρ1 => WGws C scope vs es ds ρ1 Ψ)
    (hs : ∀ X : Cx, (assignEach (e :: es) X.env).map (·.2) = assign e X.env :: (assignEach es X.env).map (·.2) := by intro _; rfl) : WGws C scope vs (e :: es) (d :: ds) ρ Ψ := by
  refine ⟨fun X' hX S α M σ H Q us ev r q => ?_⟩
  obtain ⟨v, r2, e1, h1, h2⟩ := (show ∃ v r, us = v :: r ∧ Rep C.W (Av S α) H d v ∧ Reps C.W (Av S α) H ds r from r)
  refine uGs_of (pgs_cons pg_u pgs_u (hs X')) ⟨v, r2, e1, ?_⟩
  refine h.run X' hX S α M σ H _ v ev h1 fun ρ1 σ1 p1 w1 ev1 => ?_
  exact p1.run X' hX S α M σ1 H Q r2 ev1 h2 fun ρ2 σ2 p2 w2 ev2 => q ρ2 σ2 p2 (w2.trans w1) ev2
theorem wgw_tup {ds : List D} {n : Nat} {Ψ : Rho → Prop} (ok : Cok C P w K mg base N gs Vi Li k) (h : WGws C scope vs es ds ρ Ψ)
    (hn : ∀ X : Cx, (assignEach es X.env).length = ds.length := by intro _; rfl) (hst : ∀ X : Cx, (assignEach es X.env).findIdx? (·.1) = none := by intro _; rfl) : WGw C scope vs (.Tuple es n pos) (.tup ds) ρ Ψ := by
  refine ⟨fun X' hX S α M σ H Q v ev r q => ?_⟩
  have hc : X'.calm = true := by obtain ⟨s, H1, A, cl, fp, rfl⟩ := hX; exact ok.calm
  have hk : X'.K = C.X.K := by obtain ⟨s, H1, A, cl, fp, rfl⟩ := hX; rfl
  refine uG_of (pg_tup (n := ds.length) hc pgs_u (hn X') (hst X')) ?_
  obtain ⟨a, us, e, t, rr⟩ := (show ∃ a vs, v = .ref a ∧ TSq C.W (Av S α) H a vs ∧ Reps C.W (Av S α) H ds vs from r)
  exact ⟨a, us, e, by rw [hk]; exact ok.wk ▸ t.sq, reps_len rr, h.run X' hX S α M σ H Q us ev rr q⟩
theorem wgw_tw {ds : List D} {n : Nat} {Ψ : Rho → Prop} (ok : Cok C P w K mg base N gs Vi Li k) (h : WGws C scope vs es ds ρ Ψ)
    (hn : ∀ X : Cx, (assignEach es X.env).length = ds.length := by intro _; rfl) (hst : ∀ X : Cx, (assignEach es X.env).findIdx? (·.1) = none := by intro _; rfl) : WGw C scope vs (.Tuple es n pos) (.tw ds) ρ Ψ := by
  refine ⟨fun X' hX S α M σ H Q v ev r q => ?_⟩
  have hc : X'.calm = true := by obtain ⟨s, H1, A, cl, fp, rfl⟩ := hX; exact ok.calm
  have hk : X'.K = C.X.K := by obtain ⟨s, H1, A, cl, fp, rfl⟩ := hX; rfl
  refine uG_of (pg_tup (n := ds.length) hc pgs_u (hn X') (hst X')) ?_
  obtain ⟨a, us, e, t, rr⟩ := (show ∃ a vs, v = .ref a ∧ TSw C.W (Av S α) H a vs ∧ Reps C.W (Av S α) H ds vs from r)
  exact ⟨a, us, e, by rw [hk]; exact ok.wk ▸ t.sq, reps_len rr, h.run X' hX S α M σ H Q us ev rr q⟩
/-! ### what can be walked -/
/-- a list or a tuple, by what comes -/
theorem pi_seq {X : Cx} {tg l : Expr} {tl : TE} (hl : PE X l tl) : PI X tg l fun σ H R => tl σ H fun x H1 => ∃ (a : Addr) (t : Bool) (xs : List V), x = .ref a ∧ SqB t X.K H1 a xs ∧ R (match t with | true => Itt X.K a | false => Itl X.K a) H1 := by
  refine ⟨fun pins s σ H R I h => thn (hl.run pins s σ H _ I h) fun v s1 ⟨x, H1, I1, r1, a, t, xs, e, hq, q⟩ => ?_⟩
  subst e
  cases r1
  have new1 : ∀ b ∈ [s1.heap.objs.size], FpOk X pins H1 b := fun b hb => by
    have e : b = s1.heap.objs.size := List.mem_singleton.mp hb
    rw [e]
    exact I1.fpOk (Nat.le_refl _) (I1.hok.fresh (Nat.le_refl _))
  cases t with
  | false =>
    obtain ⟨its, _, p, _⟩ := I1.list hq
    exact wpAny_pyIter_list p.isList ⟨_, [s1.heap.objs.size], _, _, H1, rfl, I1.kept (t' := s1.toks) fun b o e => Heap.get?_push_of_some _ e, turn_list a _, ⟨_, Heap.get?_push_size _ rfl, rfl, rfl⟩, new1, q⟩
  | true =>
    obtain ⟨its, _, p, _⟩ := I1.tuple hq
    exact wpAny_pyIter_tuple (items := its.toArray) p ⟨_, [s1.heap.objs.size], _, _, H1, rfl, I1.kept (t' := s1.toks) fun b o e => Heap.get?_push_of_some _ e, turn_tuple a _, ⟨_, Heap.get?_push_size _ rfl, rfl, rfl⟩, new1, q⟩
/-- a value that is a list or a tuple -/
theorem wy_F {Ψ : List D → Mm → Prop} (wk : C.W.K = C.X.K) (h : WE C e ρ M fun v M1 => ∃ t ds, frz? v = some (t, ds) ∧ Ψ ds M1) : WY C tg e ρ M Ψ := by
  refine ⟨fun S α0 H0 α σ H R bs g ev q => uY_of (pi_seq pe_u) ?_⟩
  refine h.run S α0 H0 α σ H _ bs g ev fun v M1 β u H1 p1 em1 g1 r1 => ?_
  obtain ⟨t, ds, f, hh⟩ := p1
  obtain ⟨a, vs, e, rr, k1⟩ := frz_src wk f r1
  cases t with
  | false => exact ⟨a, false, vs, e, k1 _ _ Gr0.refl, q ds M1 β _ H1 _ hh em1 g1 (yl_list wk rr) k1⟩
  | true => exact ⟨a, true, vs, e, k1 _ _ Gr0.refl, q ds M1 β _ H1 _ hh em1 g1 (yl_tup wk rr) k1⟩
/-- a bound that is asked -/
def RgB (A R : Prop) : Prop := A ∧ R
theorem rgB_i {A R : Prop} (h1 : A) (h2 : R) : RgB A R := ⟨h1, h2⟩
def rgL (lo : Int) (n : Nat) : List D := (List.range n).map fun i => .int (lo + (i : Nat))
theorem rgL_len {lo : Int} {n : Nat} : (rgL lo n).length = n := by simp [rgL]
theorem rgL_get {lo : Int} {n i : Nat} (h : i < n) : (rgL lo n)[i]? = some (.int (lo + i)) := by simp [rgL, h]
theorem yl_rg {S : Addr → Prop} {α : Als} {H : Hp} {lo : Int} {n : Nat} : Yl C S α H (Itr lo n) (rgL lo n).length (fun i => (rgL lo n)[i]?) fun _ _ => True := by
  have z := yl_range (C := C) (S := S) (α := α) (H := H) (lo := lo) (n := n)
  rw [rgL_len]
  exact ⟨z.go, z.stop, fun i α' H' x H'' M' hi g1 g2 em y => by
    obtain ⟨s, d, h1, h2⟩ := z.yld i α' H' x H'' M' hi g1 g2 em y
    cases h1
    exact ⟨s, _, rgL_get hi, h2⟩⟩
theorem wy_R1 {Ψ : List D → Mm → Prop} (B : Bt C.X "range" "range") (h : WE C a ρ M fun v M1 => ∃ n : Int, v = .d (.int n) ∧ RgB (-1000000000 ≤ n ∧ n ≤ 1000000000) (Ψ (rgL 0 n.toNat) M1))
    (hs : starEach [a] C.X.env = [(false, eval a C.X.env)] := by rfl) (hs1 : starEach [a] C.X.env = (false, eval a C.X.env) :: starEach [] C.X.env := by rfl) :
    WY C tg (.Call (.Name "range" p) [a] [] pos') ρ M Ψ := by
  refine ⟨fun S α0 H0 α σ H R bs g ev q => uY_of (pi_range1 B.gl B.mg (pa_cons pe_u pa_nil hs1) hs) ?_⟩
  refine h.run S α0 H0 α σ H _ bs g ev fun v M1 β u H1 p1 em1 g1 r1 => ?_
  obtain ⟨n, e, ⟨hn1, hn2⟩, hh⟩ := p1
  subst e
  exact ⟨n, by rw [show u = .int n from r1], by omega, by omega, q _ M1 β _ H1 (fun _ _ => True) hh em1 g1 yl_rg fun _ _ _ => trivial⟩
theorem wy_R2 {Ψ : List D → Mm → Prop} (B : Bt C.X "range" "range") (h : WE C a ρ M fun v M1 => WE C b ρ M1 fun v2 M2 => ∃ l n : Int, v = .d (.int l) ∧ v2 = .d (.int n) ∧ RgB (-1000000000 ≤ l ∧ l ≤ 1000000000 ∧ -1000000000 ≤ n ∧ n ≤ 1000000000) (Ψ (rgL l (n - l).toNat) M2))
    (hs : starEach [a, b] C.X.env = [(false, eval a C.X.env), (false, eval b C.X.env)] := by rfl) (hs2 : starEach [b] C.X.env = [(false, eval b C.X.env)] := by rfl)
    (hs3 : starEach [a, b] C.X.env = (false, eval a C.X.env) :: starEach [b] C.X.env := by rfl) (hs4 : starEach [b] C.X.env = (false, eval b C.X.env) :: starEach [] C.X.env := by rfl) :
    WY C tg (.Call (.Name "range" p) [a, b] [] pos') ρ M Ψ := by
  refine ⟨fun S α0 H0 α σ H R bs g ev q => uY_of (pi_range2 B.gl B.mg (pa_cons pe_u (pa_cons pe_u pa_nil hs4) hs3) hs hs2) ?_⟩
  refine h.run S α0 H0 α σ H _ bs g ev fun v M1 β u H1 p1 em1 g1 r1 => ?_
  refine p1.run S α0 H0 (α ++ β) σ H1 _ bs (g.trans g1) (ev.up g1 em1) fun v2 M2 β2 u2 H2 p2 em2 g2 r2 => ?_
  obtain ⟨l, n, e, e2, ⟨hl1, hl2, hn1, hn2⟩, hh⟩ := p2
  subst e; subst e2
  refine ⟨l, n, by rw [show u = .int l from r1, show u2 = .int n from r2], by omega, ?_⟩
  rw [List.append_assoc] at em2
  exact q _ M2 (β ++ β2) _ H2 (fun _ _ => True) hh em2 (g1.trans g2) yl_rg fun _ _ _ => trivial
/-- zip(x, y), both values -/
theorem wy_Z {elts : List Expr} {kk : Nat} {tpos : Pos} {Ψ : List D → Mm → Prop} (wk : C.W.K = C.X.K) (B : Bt C.X "zip" "zip")
    (h : WE C a ρ M fun v1 M1 => WE C b ρ M1 fun v2 M2 => ∃ t1 t2 ds es, frz? v1 = some (t1, ds) ∧ frz? v2 = some (t2, es) ∧ Ψ ((ds.zip es).map fun p => .tup [p.1, p.2]) M2)
    (hs : starEach [a, b] C.X.env = (false, eval a C.X.env) :: starEach [b] C.X.env := by rfl) (hs2 : starEach [b] C.X.env = (false, eval b C.X.env) :: starEach [] C.X.env := by rfl) (hpl : (backTo pos' (starEach [b] C.X.env)).any (·.1) = false := by rfl) :
    WY C (.Tuple elts kk tpos) (.Call (.Name "zip" p) [a, b] [] pos') ρ M Ψ := by
  refine ⟨fun S α0 H0 α σ H R bs g ev q => uY_of (pi_zipX B.gl B.mg (pa_cons pe_u (pa_cons pe_u pa_nil hs2) hs) hs hpl) ?_⟩
  refine h.run S α0 H0 α σ H _ bs g ev fun v1 M1 β u1 H1 p1 em1 g1 r1 => ?_
  refine p1.run S α0 H0 (α ++ β) σ H1 _ bs (g.trans g1) (ev.up g1 em1) fun v2 M2 β2 u2 H2 p2 em2 g2 r2 => ?_
  obtain ⟨t1, t2, ds, es, f1, f2, hh⟩ := p2
  obtain ⟨q1, vs1, e1, rr1, k1⟩ := frz_src wk f1 (r1.up g2)
  obtain ⟨q2, vs2, e2, rr2, k2⟩ := frz_src wk f2 r2
  have l1 := reps_len rr1
  have l2 := reps_len rr2
  refine ⟨t1, t2, q1, q2, vs1, vs2, by rw [e1, e2], k1 _ _ Gr0.refl, k2 _ _ Gr0.refl, ?_⟩
  rw [List.append_assoc] at em2 k1 k2 rr1 rr2
  have hlen : ((ds.zip es).map fun p => D.tup [p.1, p.2]).length = min ds.length es.length := by simp
  refine q _ M2 (β ++ β2) _ H2 (fun _ H' => SqB t1 C.X.K H' q1 vs1 ∧ SqB t2 C.X.K H' q2 vs2) hh em2 (g1.trans g2) ?_ fun α' H' gg => ⟨k1 _ _ gg, k2 _ _ gg⟩
  rw [hlen]
  refine ⟨fun i α' H' hi ⟨s1, s2⟩ => ⟨vs1, vs2, vs1[i]'(by omega), vs2[i]'(by omega), s1, s2, List.getElem?_eq_getElem _, List.getElem?_eq_getElem _⟩, fun α' H' ⟨s1, s2⟩ => ⟨vs1, vs2, s1, s2, by omega, by omega, by omega⟩, fun i α' H' x H'' M' hi ⟨s1, s2⟩ gg em y => ?_⟩
  obtain ⟨T, x1, x2, ex, hT, ⟨oT, eH, hdT⟩, y1, y2⟩ := (show ∃ T x1 x2, x = .ref T ∧ H' T = none ∧ (∃ o : Obj, H'' = upd H' T (.frz o (.tup [x1, x2])) ∧ o.dict = none) ∧ (∀ xs, SqB t1 C.X.K H' q1 xs → xs[i]? = some x1) ∧ ∀ ys, SqB t2 C.X.K H' q2 ys → ys[i]? = some x2 from y)
  obtain ⟨d1, z1, z2⟩ := reps_get' rr1 (y1 vs1 s1)
  obtain ⟨d2, z3, z4⟩ := reps_get' rr2 (y2 vs2 s2)
  obtain ⟨γ, eγ, gγ⟩ := gg
  subst eγ
  subst eH
  refine ⟨same_new hT, .tup [d1, d2], by simp [zip_at z1 z3], ?_⟩
  refine ⟨T, [x1, x2], ex, TSq.of (em.off hT) hdT upd_same, ?_⟩
  exact reps_same (same_new hT) (reps_cons (z2.up gγ) (reps_cons (z4.up gγ) reps_nil))
/-- enumerate(xs), xs a list -/
def enD (ds : List D) : List D := (List.range ds.length).zipWith (fun i d => .tw [.int (i : Nat), d]) ds
theorem enD_len {ds : List D} : (enD ds).length = ds.length := by simp [enD]
theorem enD_get {ds : List D} {i : Nat} {d : D} (h : ds[i]? = some d) : (enD ds)[i]? = some (.tw [.int (i : Nat), d]) := by
  have hi := (List.getElem?_eq_some_iff.mp h).1
  have e := (List.getElem?_eq_some_iff.mp h).2
  simp [enD, List.getElem?_zipWith, hi, e]
theorem wy_E {elts : List Expr} {kk : Nat} {tpos : Pos} {Ψ : List D → Mm → Prop} (wk : C.W.K = C.X.K) (B : Bt C.X "enumerate" "enumerate")
    (h : WE C a ρ M fun v M1 => ∃ ds, v = .d (.lst ds) ∧ Ψ (enD ds) M1)
    (hs : starEach [a] C.X.env = [(false, eval a C.X.env)] := by rfl) (hs1 : starEach [a] C.X.env = (false, eval a C.X.env) :: starEach [] C.X.env := by rfl) :
    WY C (.Tuple elts kk tpos) (.Call (.Name "enumerate" p) [a] [] pos') ρ M Ψ := by
  refine ⟨fun S α0 H0 α σ H R bs g ev q => uY_of (pi_enum B.gl B.mg (pa_cons pe_u pa_nil hs1) hs) ?_⟩
  refine h.run S α0 H0 α σ H _ bs g ev fun v M1 β u H1 p1 em1 g1 r1 => ?_
  obtain ⟨ds, e, hh⟩ := p1
  subst e
  obtain ⟨q1, vs, e1, t, rr⟩ := (show ∃ a vs, u = .ref a ∧ LSq C.W (Av S (α ++ β)) H1 a vs ∧ Reps C.W (Av S (α ++ β)) H1 ds vs from r1)
  have l1 := reps_len rr
  refine ⟨q1, vs, by rw [e1], wk ▸ t.sq, ?_⟩
  refine q _ M1 β _ H1 (fun _ H' => SqL C.X.K H' q1 vs) hh em1 g1 ?_ fun α' H' gg => wk ▸ t.on gg
  rw [enD_len]
  refine ⟨fun i α' H' hi s1 => ⟨vs, vs[i]'(by omega), s1, List.getElem?_eq_getElem _⟩, fun α' H' s1 => ⟨vs, s1, by omega⟩, fun i α' H' x H'' M' hi s1 gg em y => ?_⟩
  obtain ⟨T, x1, ex, hT, eH, y1⟩ := (show ∃ T x1, x = .ref T ∧ H' T = none ∧ H'' = upd H' T (.tup [.int (i : Nat), x1]) ∧ ∀ xs, SqL C.X.K H' q1 xs → xs[i]? = some x1 from y)
  obtain ⟨d1, z1, z2⟩ := reps_get' rr (y1 vs s1)
  obtain ⟨γ, eγ, gγ⟩ := gg
  subst eγ
  subst eH
  refine ⟨same_new hT, .tw [.int (i : Nat), d1], enD_get z1, ?_⟩
  refine ⟨T, [.int (i : Nat), x1], ex, TSw.of (em.off hT) upd_same, ?_⟩
  exact reps_same (same_new hT) (reps_cons (show V.int (i : Nat) = .int (i : Nat) from rfl) (reps_cons (z2.up gγ) reps_nil))
/-- reversed(xs), a list or a tuple -/
theorem wy_V {Ψ : List D → Mm → Prop} (wk : C.W.K = C.X.K) (B : Bt C.X "reversed" "reversed") (h : WE C a ρ M fun v M1 => ∃ t ds, frz? v = some (t, ds) ∧ Ψ ds.reverse M1)
    (hs1 : starEach [a] C.X.env = (false, eval a C.X.env) :: starEach [] C.X.env := by rfl) :
    WY C tg (.Call (.Name "reversed" p) [a] [] pos') ρ M Ψ := by
  refine ⟨fun S α0 H0 α σ H R bs g ev q => uY_of (RT.pi_revA B.gl B.mg pe_u hs1) ?_⟩
  refine h.run S α0 H0 α σ H _ bs g ev fun v M1 β u H1 p1 em1 g1 r1 => ?_
  obtain ⟨t, ds, f, hh⟩ := p1
  obtain ⟨a, vs, e, rr, k1⟩ := frz_src wk f r1
  have l1 := reps_len rr
  refine ⟨a, vs, e, ?_⟩
  have gt : ∀ {α' H' x i}, Gr0 (α ++ β) α' H1 H' → vs[vs.length - 1 - i]? = some x → i < ds.reverse.length → ∃ d, ds.reverse[i]? = some d ∧ Rep C.W (Av S α') H' d x := by
    intro α' H' x i gg hx hi
    obtain ⟨d, h1, h2⟩ := reps_get' rr hx
    refine ⟨d, ?_, by obtain ⟨γ, eγ, gγ⟩ := gg; subst eγ; exact h2.up gγ⟩
    rw [List.getElem?_reverse (by simpa using hi), ← l1]; exact h1
  cases t with
  | false =>
    have sq := k1 _ _ Gr0.refl
    refine .inl ⟨sq, q _ M1 β _ H1 (fun _ H' => SqL C.X.K H' a vs) hh em1 g1 ⟨fun i α' H' hi s1 => ?_, fun α' H' s1 => ?_, fun i α' H' x H'' M' hi s1 gg em y => ?_⟩ k1⟩
    · simp at hi
      exact ⟨by omega, vs, vs[vs.length - 1 - i]'(by omega), s1, List.getElem?_eq_getElem _⟩
    · show vs.length ≤ _
      simp; omega
    · obtain ⟨e1, y1⟩ := (show H'' = H' ∧ ∀ xs, SqL C.X.K H' a xs → xs[vs.length - 1 - i]? = some x from y)
      subst e1
      exact ⟨Same.refl _, gt gg (y1 vs s1) hi⟩
  | true =>
    have sq := k1 _ _ Gr0.refl
    refine .inr ⟨sq, q _ M1 β _ H1 (fun _ H' => SqT C.X.K H' a vs) hh em1 g1 ⟨fun i α' H' hi s1 => ?_, fun α' H' s1 => ?_, fun i α' H' x H'' M' hi s1 gg em y => ?_⟩ k1⟩
    · simp at hi
      exact ⟨by omega, vs, vs[vs.length - 1 - i]'(by omega), s1, List.getElem?_eq_getElem _⟩
    · show vs.length ≤ _
      simp; omega
    · obtain ⟨e1, y1⟩ := (show H'' = H' ∧ ∀ xs, SqT C.X.K H' a xs → xs[vs.length - 1 - i]? = some x from y)
      subst e1
      exact ⟨Same.refl _, gt gg (y1 vs s1) hi⟩
/-- for over what is walked -/
theorem w1_for {body : List Stmt} (ok : Cok C P w K mg base N gs Vi Li k) (own : PassesOwn (model C.X.prog C.X.w) C.X.A C.X.env C.X.xe)
    (h : WY C tg iter ρ M fun ds M1 => ∃ Iv : Nat → Rho → Mm → Prop, Iv 0 ρ M1 ∧
      (∀ (i : Nat) d ρ' M', i < ds.length → ds[i]? = some d → Iv i ρ' M' → WG C tg (.d d) ρ' M' fun ρ2 M2 => WS (C.at M1.length) body ρ2 M2 (Φ.out C.n0 (Iv (i + 1)))) ∧ ∀ ρ' M', Iv ds.length ρ' M' → Φ.nx ρ' M')
    (hf : ∀ x, foldedSetIterable iter C.X.env x = pure x := by intro _; rfl) : W1 C (.For tg iter body [] pos) ρ M Φ := by
  refine ⟨fun S α0 H0 α σ H D bs g ev f => uS_of (ps_for own ok.calm pi_u pg_u pss_u hf) ?_⟩
  refine h.run S α0 H0 α σ H _ bs g ev fun ds M1 β J H1 G p1 em1 g1 Y hG => ?_
  obtain ⟨Iv, h0, h1, h2⟩ := p1
  exact for_core bs (g.trans g1) (ev.up g1 em1) f Y Iv h0 (fun i ρ' M' α' σ' H' _ _ _ gg => hG _ _ gg) (fun i d ρ' M' hi e hI => h1 i d ρ' M' hi e hI) h2
end
end Dl

/-! DLI: comprehensions over what is walked. -/
namespace Dl
open PySem L2
/-- the tests and the element, at a turn: what the turn puts behind -/
def LcI (C : Ctx) (scope : Scope) (n : Nat) (M0 : Mm) (elt : Expr) (ρ : Rho) (o : Option D) : List Expr → Mm → Prop
  | [], M => ∀ X', BkX C scope X' → WE (C.bk X' n) elt ρ M fun y M4 => Clo n y M4 fun y' M5 => M5 = M0 ∧ ∃ x, y' = .d x ∧ o = some x
  | c :: cs, M => ∀ X', BkX C scope X' → WT (C.bk X' n) c ρ M fun b M3 => (b = true → LcI C scope n M0 elt ρ o cs M3) ∧ (b = false → M3.take n = M0 ∧ o = none)
def gBk (C : Ctx) (scope : Scope) (tg : Expr) : TG := fun v σ H Q => ∀ X', BkX C scope X' → uG X' tg v σ H Q
def yBk (C : Ctx) (scope : Scope) (tg iter : Expr) : TI := fun σ H R => ∀ X', BkX C scope X' → uY X' tg iter σ H R
def tsBk (C : Ctx) (scope : Scope) : List Expr → TT
  | [] => tYes
  | c :: _ => tBk C scope c
def putO (acc : List D) : Option D → List D
  | none => acc
  | some x => acc ++ [x]
/-- a turn of a comprehension from the heap H2: what it leaves -/
def Nxs (W : Wd) (S : Addr → Prop) (α : Als) (M : Mm) (H1 : Hp) (p : Addr) (H2 : Hp) (acc : List D) (H : Hp) : Prop := Nxt W S α M H1 p acc H ∧ Gr (α ++ [[p]]) [] H2 H
section
variable {P : Program} {w : World} {K : PySem.W.Frag} {mg : Str → Option Value} {base : Heap} {N gs : List Str} {Vi Li : List Nat} {k : Nat}
variable {C : Ctx} {elt iter tg iter1 tg1 : Expr} {ρ : Rho} {M : Mm} {Φ : Kn} {Ψ : AV → Mm → Prop} {x : Str} {pos p pos' px : Pos} {scope : Scope} {own : List (Str × Nat)} {j : Nat} {ifs ifs1 : List Expr}
theorem Clo.mono {n : Nat} {a : AV} {R R' : AV → Mm → Prop} (c : Clo n a M R) (h : ∀ a' M', R a' M' → R' a' M') : Clo n a M R' := by
  cases a with
  | d x => exact h _ _ c
  | m k =>
    show (if k < n then R' (.m k) (M.take n) else match M[k]? with
      | some (.l ds) => R' (.d (.lst ds)) (M.take n)
      | some (.k ks ds) => R' (.d (.dk ks ds)) (M.take n)
      | _ => False)
    have c' : (if k < n then R (.m k) (M.take n) else match M[k]? with
      | some (.l ds) => R (.d (.lst ds)) (M.take n)
      | some (.k ks ds) => R (.d (.dk ks ds)) (M.take n)
      | _ => False) := c
    by_cases hk : k < n
    · rw [if_pos hk] at c' ⊢; exact h _ _ c'
    · rw [if_neg hk] at c' ⊢
      cases q : M[k]? with
      | none => rw [q] at c'; exact c'.elim
      | some m =>
        rw [q] at c'
        cases m with
        | l ds => exact h _ _ c'
        | k ks ds => exact h _ _ c'
        | o c ds => exact c'.elim
        | dead => exact c'.elim
theorem pgx_bk {s : Shared} {H : Hp} {A : Addr} {cl : List (Str × Addr)} {fp : List Addr} : PG (C.X.blk s H scope (compEnvC scope cl A C.X.env) fp) tg (gBk C scope tg) :=
  ⟨fun pins s' σ H' v u Q I r h => pg_u.run pins s' σ H' v u Q I r (h _ ⟨s, H, A, cl, fp, rfl⟩)⟩
theorem pix_bk {s : Shared} {H : Hp} {A : Addr} {cl : List (Str × Addr)} {fp : List Addr} : PI (C.X.blk s H scope (compEnvC scope cl A C.X.env) fp) tg iter (yBk C scope tg iter) :=
  ⟨fun pins s' σ H' R I h => pi_u.run pins s' σ H' R I (h _ ⟨s, H, A, cl, fp, rfl⟩)⟩
theorem ptsx_bk (hif : ifs.length ≤ 1) {s : Shared} {H : Hp} {A : Addr} {cl : List (Str × Addr)} {fp : List Addr} : PTs (C.X.blk s H scope (compEnvC scope cl A C.X.env) fp) ifs (tsBk C scope ifs) := by
  match ifs, hif with
  | [], _ => exact pts_nil
  | [c], _ => exact pts_bk
theorem nxs_put {X : Cx} {S : Addr → Prop} {α : Als} {H1 H2 H3 : Hp} {p : Addr} {acc acc' : List D} {v : V} {β : Als} {a : AV} {M' : Mm} (g : Nxt C.W S α M H1 p acc H2) (ha : acc.length < 10000000)
    (em : EM C.W S (α ++ [[p]] ++ β) M' H3) (gr : Gr (α ++ [[p]]) β H2 H3) (r : RepA C.W S (α ++ [[p]] ++ β) H3 a v) (c : Clo (M.length + 1) a M' fun a' M2 => M2 = M ++ [.l acc] ∧ ∃ x, a' = .d x ∧ acc' = acc ++ [x]) :
    ∃ us, H3 p = some (.lst us) ∧ us.length < sizeLine ∧ Nxs C.W S α M H1 p H2 acc' (upd H3 p (.lst (us ++ [v]))) := by
  obtain ⟨em0, g0⟩ := g
  have hlen : (α ++ [[p]]).length = M.length + 1 := by rw [← em0.len]; simp
  obtain ⟨a', M2, α2, ⟨e2, x, e1, e3⟩, em2, g2, r2⟩ := clo_ok (C := C.bk X (M.length + 1)) (bs_bk (C := C) (X := X) (n := M.length + 1) hlen em0.trA) ⟨β, rfl, gr⟩ em r c
  subst e1; subst e2; subst e3
  obtain ⟨γ, eγ, g3⟩ := g2
  have hγ : γ = [] := by
    have h1 := em2.len
    have h2 := em0.len
    rw [eγ, List.length_append] at h1
    simp only [List.length_append, List.length_cons, List.length_nil] at h1 h2
    exact List.eq_nil_of_length_eq_zero (by omega)
  subst hγ
  rw [app_nil] at eγ
  subst eγ
  have hal : α.length = M.length := by have := hlen; simp at this; exact this
  have hk : (α ++ [[p]])[M.length]? = some [p] := by rw [← hal]; simp
  obtain ⟨p', us, ep, _, hh, rr⟩ := cell_l (k := M.length) (v := .ref p) (ds := acc) em2 (by simp) ⟨p, [], hk, rfl⟩
  cases ep
  obtain ⟨em4, g4⟩ := em2.put (k := M.length) (o := .lst (us ++ [v])) (m' := .l (acc ++ [x])) hk ⟨p, _, rfl, upd_same, reps_put hk (reps_app rr (reps_cons r2 reps_nil))⟩
  have gg : Gr (α ++ [[p]]) [] H2 (upd H3 p (.lst (us ++ [v]))) := by
    have z := g3.trans (by rw [app_nil]; exact g4)
    exact z
  refine ⟨us, hh, by rw [reps_len rr, sizeLine_eq]; omega, ⟨?_, ?_⟩, gg⟩
  · have e : (M ++ [MO.l acc]).set M.length (.l (acc ++ [x])) = M ++ [.l (acc ++ [x])] := by simp
    rw [← e]; exact em4
  · have z := g0.trans gg
    rw [app_nil] at z; exact z
/-- a turn: at most one test -/
theorem lcI_turn (hif : ifs.length ≤ 1) {S : Addr → Prop} {α : Als} {H H2 : Hp} {p : Addr} {acc : List D} {o : Option D} {ρ2 : Rho} {σ2 : L2.St} (nx : Nxt C.W S α M H p acc H2) (ha : acc.length < 10000000) (ev : Ev C.W S (α ++ [[p]]) ρ2 (M ++ [.l acc]) σ2 H2)
    (h : LcI C scope (M.length + 1) (M ++ [.l acc]) elt ρ2 o ifs (M ++ [.l acc])) :
    tsBk C scope ifs σ2 H2 fun b H3 => if b = true then eBk C scope elt σ2 H3 fun y H4 => ∃ us, H4 p = some (.lst us) ∧ us.length < sizeLine ∧ Nxs C.W S α M H p H2 (putO acc o) (upd H4 p (.lst (us ++ [y]))) else Nxs C.W S α M H p H2 (putO acc o) H3 := by
  have hlen : (α ++ [[p]]).length = M.length + 1 := by rw [← nx.1.len]; simp
  match ifs, hif, h with
  | [], _, h =>
    show (if true = true then _ else Nxs C.W S α M H p H2 (putO acc o) H2)
    rw [if_pos rfl]
    intro X2 hX2
    refine (h X2 hX2).run S (α ++ [[p]]) H2 (α ++ [[p]]) σ2 H2 _ (bs_bk hlen nx.1.trA) Gr0.refl ev fun y M4 β v H4 cc em4 g4 r4 => ?_
    exact nxs_put (C := C) (X := X2) nx ha em4 g4 r4 (cc.mono fun y' M5 ⟨e1, x, e2, e3⟩ => ⟨e1, x, e2, by rw [e3]; rfl⟩)
  | [c], _, h =>
    intro X' hX'
    refine (h X' hX').run S (α ++ [[p]]) H2 (α ++ [[p]]) σ2 H2 _ (bs_bk (C := C) (X := X') (n := M.length + 1) hlen nx.1.trA) Gr0.refl ev fun b M3 β H3 hb em3 g3 => ?_
    cases b with
    | false =>
      rw [if_neg Bool.false_ne_true]
      obtain ⟨e1, e2⟩ := hb.2 rfl
      subst e2
      have em4 := em3.take (M.length + 1)
      rw [e1, ← hlen, List.take_left' rfl] at em4
      have g5 : Gr (α ++ [[p]]) [] H2 H3 := ⟨g3.kp, g3.st, fun l hl => by simp at hl⟩
      refine ⟨⟨em4, ?_⟩, g5⟩
      have z := nx.2.trans g5
      rw [app_nil] at z; exact z
    | true =>
      rw [if_pos rfl]
      intro X2 hX2
      refine (hb.1 rfl X2 hX2).run S (α ++ [[p]]) H2 (α ++ [[p]] ++ β) σ2 H3 _ (bs_bk hlen nx.1.trA) ⟨β, rfl, g3⟩ (ev.up g3 em3) fun y M4 β2 v H4 cc em4 g4 r4 => ?_
      have e : α ++ [[p]] ++ (β ++ β2) = α ++ [[p]] ++ β ++ β2 := (List.append_assoc _ _ _).symm
      exact nxs_put (C := C) (X := X2) nx ha (β := β ++ β2) (by rw [e]; exact em4) (g3.trans g4) (by rw [e]; exact r4) (cc.mono fun y' M5 ⟨e1, x, e2, e3⟩ => ⟨e1, x, e2, by rw [e3]; rfl⟩)
theorem ts_mono (hif : ifs.length ≤ 1) {σ : L2.St} {H : Hp} {p : Addr} {R R' : Hp → Prop} (h : tsBk C scope ifs σ H fun b H3 => if b = true then eBk C scope elt σ H3 fun y H4 => ∃ us, H4 p = some (.lst us) ∧ us.length < sizeLine ∧ R (upd H4 p (.lst (us ++ [y]))) else R H3) (hr : ∀ H', R H' → R' H') :
    tsBk C scope ifs σ H fun b H3 => if b = true then eBk C scope elt σ H3 fun y H4 => ∃ us, H4 p = some (.lst us) ∧ us.length < sizeLine ∧ R' (upd H4 p (.lst (us ++ [y]))) else R' H3 := by
  match ifs, hif, h with
  | [], _, z =>
    have z : (if true = true then eBk C scope elt σ H fun y H4 => ∃ us, H4 p = some (.lst us) ∧ us.length < sizeLine ∧ R (upd H4 p (.lst (us ++ [y]))) else R H) := z
    rw [if_pos rfl] at z
    show (if true = true then _ else R' H)
    rw [if_pos rfl]
    intro X2 hX2 pins s I
    exact wpAny_mono (z X2 hX2 pins s I) (fun v s' ⟨x, H', I', r', us, e1, e2, e3⟩ => ⟨x, H', I', r', us, e1, e2, hr _ e3⟩) fun _ _ e => e
  | [c], _, z =>
    intro X2 hX2 pins s I
    refine wpAny_mono (z X2 hX2 pins s I) (fun b s' ⟨H', I', r'⟩ => ⟨H', I', ?_⟩) fun _ _ e => e
    cases b with
    | false => rw [if_neg Bool.false_ne_true] at r' ⊢; exact hr _ r'
    | true =>
      rw [if_pos rfl] at r' ⊢
      intro X3 hX3 pins3 s3 I3
      exact wpAny_mono (r' X3 hX3 pins3 s3 I3) (fun v s' ⟨x, H', I', r', us, e1, e2, e3⟩ => ⟨x, H', I', r', us, e1, e2, hr _ e3⟩) fun _ _ e => e
/-- the turns, whatever a turn does -/
theorem lcy_turns {S : Addr → Prop} {α : Als} {H : Hp} {σ : L2.St} {Q : VK} {J : It} {ds : List D} {G : Als → Hp → Prop} {vs : List Nat} {bd : L2.St → Hp → (Hp → Prop) → Prop}
    (em : EM C.W S α M H) (ev : Ev C.W S α ρ M σ H) (Y : Yl C S α H J ds.length (fun i => ds[i]?) G) (F : D → List D) (hGG : ∀ α' H', Gr0 α α' H H' → G α' H') {p : Addr}
    (hs : ∀ i d acc H2 v, ds[i]? = some d → acc = (ds.take i).flatMap F → Nxt C.W S α M H p acc H2 → Rep C.W (Av S (α ++ [[p]])) H2 d v → Ev C.W S (α ++ [[p]]) (wipeR ρ vs) (M ++ [.l acc]) (L2.wipe σ vs) H2 →
      gBk C scope tg v (L2.wipe σ vs) H2 fun σ2 H3 => L2.wipe σ2 vs = L2.wipe σ vs ∧ bd σ2 H3 fun H4 => Nxt C.W S α M H p (acc ++ F d) H4)
    (q : PostE C S α H Ψ Q) (hd : Ψ (.m M.length) (M ++ [.l (ds.flatMap F)])) (hp : H p = none) :
    ∃ W : Nat → Nat → Hp → Prop, (∃ m, W 0 m (upd H p (.lst []))) ∧ ∀ i m H, W i m H →
      (J.stop i H ∧ Q (.ref p) H) ∨ (J.go i H ∧ ∃ Nx : Hp → Prop, (∀ H', Nx H' → ∃ m', m' < m ∧ W (i + 1) m' H') ∧ ∀ x H', J.yld i H x H' → gBk C scope tg x (L2.wipe σ vs) H' fun σ2 H2 => L2.wipe σ2 vs = L2.wipe σ vs ∧ bd σ2 H2 Nx) := by
  have start : Nxt C.W S α M H p [] (upd H p (.lst [])) := by
    refine newM (C := C) (Ψ := fun a M' => a = .m M.length ∧ M' = M ++ [.l []]) (Q := fun v H' => v = .ref p → Nxt C.W S α M H p [] H') (m := .l []) em (fun a M' β v H' pp em' g' r' ev' => ?_) hp ⟨p, [], rfl, upd_same, reps_nil⟩ ⟨rfl, rfl⟩ rfl
    obtain ⟨e1, e2⟩ := pp
    subst e1; subst e2; subst ev'
    obtain ⟨p', us, ep, hk, _, _⟩ := cell_l (k := M.length) (ds := []) em' (by simp) r'
    cases ep
    have hl := em'.len
    have hl2 := em.len
    simp only [List.length_append, List.length_cons, List.length_nil] at hl
    have : β = [[p]] := by
      match β, hl, hk with
      | [b], _, hk => rw [hl2] at hk; simp at hk; rw [hk]
      | [], hl, _ => simp at hl; omega
      | _ :: _ :: _, hl, _ => simp at hl; omega
    subst this
    exact ⟨em', [[p]], rfl, g'⟩
  refine ⟨fun i m H' => m = ds.length - i ∧ i ≤ ds.length ∧ Nxt C.W S α M H p ((ds.take i).flatMap F) H', ⟨ds.length, by simp, Nat.zero_le _, by simpa using start⟩, ?_⟩
  rintro i m H2 ⟨rfl, hi, nx⟩
  by_cases hlt : i < ds.length
  · refine .inr ⟨Y.go i _ H2 hlt (hGG _ _ nx.2), fun H' => Nxt C.W S α M H p ((ds.take (i + 1)).flatMap F) H', fun H' z => ⟨ds.length - (i + 1), by omega, rfl, hlt, z⟩, fun v H3 y => ?_⟩
    obtain ⟨sm, d, hd', r⟩ := Y.yld i _ H2 v H3 (M ++ [.l ((ds.take i).flatMap F)]) hlt (hGG _ _ nx.2) nx.2 nx.1 y
    have nx2 : Nxt C.W S α M H p ((ds.take i).flatMap F) H3 := ⟨by have z := nx.1.on' sm; rw [app_nil] at z; exact z, by have z := nx.2.trans (Gr.same sm); rw [app_nil] at z; exact z⟩
    have ev2 : Ev C.W S (α ++ [[p]]) ρ (M ++ [.l ((ds.take i).flatMap F)]) σ H3 := by
      obtain ⟨β, eβ, gβ⟩ := nx2.2
      have : β = [[p]] := List.append_cancel_left eβ.symm
      subst this
      exact ev.up gβ nx2.1
    have z := hs i d _ H3 v hd' rfl nx2 r (ev2.wipe vs)
    have e : (ds.take (i + 1)).flatMap F = (ds.take i).flatMap F ++ F d := by
      rw [List.take_add_one, hd']; simp
    rw [e]
    exact z
  · have e : i = ds.length := by omega
    subst e
    obtain ⟨β, eβ, gβ⟩ := nx.2
    have : β = [[p]] := List.append_cancel_left eβ.symm
    subst this
    rw [List.take_length] at nx
    refine .inl ⟨Y.stop _ H2 (hGG _ _ nx.2), q (.m M.length) _ [[p]] (.ref p) H2 hd nx.1 gβ ⟨p, [], ?_, rfl⟩⟩
    have hal := em.len
    rw [hal]; simp
/-- what one turn of [elt for tg in .. if ..] puts behind -/
def LcTurn (C : Ctx) (scope : Scope) (vs : List Nat) (tg : Expr) (ifs : List Expr) (elt : Expr) (ρ : Rho) (M : Mm) (d : D) (o : Option D) : Prop :=
  ∀ acc : List D, acc.length < 10000000 → WGw C scope vs tg d (wipeR ρ vs) fun ρ2 => Nrm ρ2 (M ++ [.l acc]) fun ρ3 M3 => LcI C scope (M.length + 1) M3 elt ρ3 o ifs M3
theorem wipe_idem {σ : L2.St} {vs : List Nat} : L2.wipe (L2.wipe σ vs) vs = L2.wipe σ vs := by
  apply List.ext_getElem?
  intro i
  by_cases hv : i ∈ vs
  · exact wipe_in (by rw [wipe_length]) hv
  · rw [wipe_out hv]
theorem fm_len {ds : List D} {g : D → Option D} : (ds.filterMap g).length ≤ ds.length := List.length_filterMap_le ..
theorem put_fm {acc : List D} {o : Option D} : putO acc o = acc ++ o.toList := by cases o <;> simp [putO]
theorem fm_flat (ds : List D) (g : D → Option D) : ds.filterMap g = ds.flatMap fun d => (g d).toList := by
  induction ds with
  | nil => rfl
  | cons d ds ih => cases h : g d <;> simp [h, ih]
theorem flat_le {g : D → Option D} (ds : List D) (n : Nat) : ((ds.take n).flatMap fun d => (g d).toList).length ≤ ds.length := by
  rw [← fm_flat]
  exact Nat.le_trans fm_len (by simp; omega)
/-- the reading of [elt for tg in iter (if c)] -/
theorem lc_read {own : List (Str × Nat)} (hif : ifs.length ≤ 1) {S : Addr → Prop} {α0 α : Als} {H0 H : Hp} {σ : L2.St} {Q : VK} (bs : Bs C S α0 H0) (g : Gr0 α0 α H0 H) (ev : Ev C.W S α ρ M σ H) (q : PostE C S α H Ψ Q)
    (h : WY C tg iter ρ M fun ds M1 => ds.length < 10000000 ∧ ∃ g : D → Option D, (∀ (i : Nat) d, ds[i]? = some d → LcTurn C scope (own.map (·.2)) tg ifs elt ρ M1 d (g d)) ∧ Ψ (.m M1.length) (M1 ++ [.l (ds.filterMap g)])) :
    tLc (uY C.X tg iter) (gBk C scope tg) (tsBk C scope ifs) (eBk C scope elt) (own.map (·.2)) σ H Q := by
  refine h.run S α0 H0 α σ H _ bs g ev fun ds M1 β J H1 G p1 em1 g1 Y hG => ?_
  obtain ⟨hn, g2, h1, h2⟩ := p1
  intro p hp
  refine lcy_turns (bd := fun σ2 H2 Nx => tsBk C scope ifs σ2 H2 fun b H3 => if b = true then eBk C scope elt σ2 H3 fun y H4 => ∃ acc, H4 p = some (.lst acc) ∧ acc.length < sizeLine ∧ Nx (upd H4 p (.lst (acc ++ [y]))) else Nx H3) em1 (ev.up g1 em1) Y (fun d => (g2 d).toList) hG (fun i d acc H2 v hd eacc nx r ev2 => ?_) (thnE q g1) (by rw [← fm_flat]; exact h2) hp
  intro X' hX'
  have ha : acc.length < 10000000 := by rw [eacc]; exact Nat.lt_of_le_of_lt (flat_le ds i) hn
  refine (h1 i d hd acc ha).run X' hX' S (α ++ β ++ [[p]]) _ _ H2 _ v ev2 r fun ρ' σ' pp hw ev3 => ⟨hw.trans wipe_idem, ?_⟩
  have z := lcI_turn hif nx ha ev3 pp.out
  rw [put_fm] at z
  exact ts_mono hif z fun H' z => z.1
/-- [elt for tg in iter (if c)] -/
theorem we_lcO (own : List (Str × Nat)) (vs : List Nat) {sc : Scope} (ok : Cok C P w K mg base N gs Vi Li k) (hE : ∃ q L f cdv, C.X.env = PyProof.Rows.envOfC q sc L f cdv) (hb : blkC N sc scope own = true)
    (h : WY C tg iter ρ M fun ds M1 => ds.length < 10000000 ∧ ∃ g : D → Option D, (∀ (i : Nat) d, ds[i]? = some d → LcTurn C scope vs tg ifs elt ρ M1 d (g d)) ∧ Ψ (.m M1.length) (M1 ++ [.l (ds.filterMap g)]))
    (hvs : own.map (·.2) = vs := by rfl) (hif : Nat.ble ifs.length 1 = true := by rfl) (hf : ∀ y, foldedSetIterable iter C.X.env y = pure y := by intro _; rfl) : WE C (.ListComp elt [⟨tg, iter, ifs, 0⟩] scope pos) ρ M Ψ := by
  subst hvs
  exact ⟨fun S α0 H0 α σ H Q bs g ev q => uE_of (pe_lc ok.calm (by rw [ok.nE]; exact ok.nd) pi_u (bo_of ok hE hb) (fun _ _ _ _ _ => pgx_bk) (fun _ _ _ _ _ => ptsx_bk (Nat.le_of_ble_eq_true hif)) (fun _ _ _ _ _ => pe_bk) hf) (lc_read (own := own) (Nat.le_of_ble_eq_true hif) bs g ev q h)⟩
theorem swl {sc : Scope} {y : Str} {py : Pos} {e : Expr} {l : Nat} (hE : ∃ q L f cdv, C.X.env = PyProof.Rows.envOfC q sc L f cdv) (h : ∀ q L f cdv, swapsWith e (some (.Name y py)) l (PyProof.Rows.envOfC q sc L f cdv) = pure true) : swapsWith e (some (.Name y py)) l C.X.env = pure true := by
  obtain ⟨q, L, f, cdv, e1⟩ := hE
  rw [e1]; exact h q L f cdv
theorem lkl {sc : Scope} {y : Str} (hE : ∃ q L f cdv, C.X.env = PyProof.Rows.envOfC q sc L f cdv) (h : sc.names.lookup y = some .local) : C.X.env.scope.names.lookup y = some .local := by
  obtain ⟨q, L, f, cdv, e1⟩ := hE
  rw [e1]; exact h
/-- y = [elt for tg in iter (if c)] -/
theorem w1_sLc (own : List (Str × Nat)) (vs : List Nat) {sc : Scope} {i : Nat} {y : Str} {py spos : Pos} (B : Ls C.X y i) (ok : Cok C P w K mg base N gs Vi Li k) (hE : ∃ q L f cdv, C.X.env = PyProof.Rows.envOfC q sc L f cdv) (hb : blkC N sc scope own = true)
    (hy : sc.names.lookup y = some .local) (hsw : ∀ q L f cdv, swapsWith (.ListComp elt [⟨tg, iter, ifs, 0⟩] scope pos) (some (.Name y py)) spos.line (PyProof.Rows.envOfC q sc L f cdv) = pure true)
    (h : WY C tg iter ρ M fun ds M1 => ds.length < 10000000 ∧ ∃ g : D → Option D, (∀ (i : Nat) d, ds[i]? = some d → LcTurn C scope vs tg ifs elt ρ M1 d (g d)) ∧ Clo M.length (.m M1.length) (M1 ++ [.l (ds.filterMap g)]) fun v M2 => Nrm (ρ.set i (some v)) M2 Φ.nx)
    (hvs : own.map (·.2) = vs := by rfl) (hif : Nat.ble ifs.length 1 = true := by rfl) (hf : ∀ y, foldedSetIterable iter C.X.env y = pure y := by intro _; rfl) :
    W1 C (.Assign [.Name y py] (.ListComp elt [⟨tg, iter, ifs, 0⟩] scope pos) spos) ρ M Φ := by
  subst hvs
  refine ⟨fun S α0 H0 α σ H D bs g ev f => uS_of (ps_setLc (i := i) ok.calm (by rw [ok.nE]; exact ok.nd) B.nm (lkl hE hy) (swl hE hsw) pi_u (bo_of ok hE hb) (fun _ _ _ _ _ => pgx_bk) (fun _ _ _ _ _ => ptsx_bk (Nat.le_of_ble_eq_true hif)) (fun _ _ _ _ _ => pe_bk) hf) ?_⟩
  show tLc (uY C.X tg iter) (gBk C scope tg) (tsBk C scope ifs) (eBk C scope elt) (own.map (·.2)) σ H fun u H1 => D.nx (σ.set i (some u)) H1
  refine lc_read (own := own) (Nat.le_of_ble_eq_true hif) bs g ev (Ψ := fun v M2 => Clo M.length v M2 fun v M2 => Nrm (ρ.set i (some v)) M2 Φ.nx) (fun v M1 β u H1 p1 em1 g1 r1 => ?_) h
  obtain ⟨c, M', α', hh, he, ⟨γ, eγ, gγ⟩, hr⟩ : ∃ a' M' α', Nrm (ρ.set i (some a')) M' Φ.nx ∧ EM C.W S α' M' H1 ∧ Gr0 α α' H H1 ∧ RepA C.W S α' H1 a' u :=
    clo_ok (C := { C with n0 := M.length, T := fun _ _ _ _ => False }) ⟨ev.em.len.symm, ev.em.trA, fun _ _ _ _ => False, (fun _ _ ⟨_, _, _, _, _, _, _, _, _, _, _, _, _, _, _, _, z⟩ => z.elim), fun _ _ _ _ _ _ _ _ _ z => z.elim⟩ ⟨β, rfl, g1⟩ em1 r1 p1
  subst eγ
  exact f.nx _ M' (α ++ γ) _ H1 hh.out ((ev.up gγ he).set i hr) (g.trans gγ)
end
end Dl

/-! DLJ: comprehensions with two fors. -/
namespace Dl
open PySem L2
section
variable {P : Program} {w : World} {K : PySem.W.Frag} {mg : Str → Option Value} {base : Heap} {N gs : List Str} {Vi Li : List Nat} {k : Nat}
variable {C : Ctx} {elt iter tg iter1 tg1 : Expr} {ρ : Rho} {M : Mm} {Φ : Kn} {Ψ : AV → Mm → Prop} {x : Str} {pos p pos' px : Pos} {scope : Scope} {own : List (Str × Nat)} {j : Nat} {ifs ifs1 : List Expr}
/-- what one turn of the first for puts behind -/
def LcTurn2 (C : Ctx) (scope : Scope) (vs vs1 : List Nat) (tg : Expr) (tg1 iter1 : Expr) (ifs1 : List Expr) (elt : Expr) (ρ : Rho) (M : Mm) (d : D) (F : List D) : Prop :=
  ∀ acc : List D, acc.length < 10000000 → WGw C scope vs tg d (wipeR ρ vs) fun ρ2 => Nrm ρ2 (M ++ [.l acc]) fun ρ3 M3 => ∀ X', BkX C scope X' → WY (C.bk X' (M.length + 1)) tg1 iter1 ρ3 M3 fun es M4 => M4 = M3 ∧
    ∃ g : D → Option D, (∀ (i : Nat) e, es[i]? = some e → LcTurn C scope vs1 tg1 ifs1 elt ρ3 M e (g e)) ∧ es.filterMap g = F
theorem lc_inner (hif : ifs1.length ≤ 1) {S : Addr → Prop} {α : Als} {H H4 : Hp} {σ2 : L2.St} {J : It} {es acc : List D} {G : Als → Hp → Prop} {vs1 : List Nat} {p : Addr} {ρ3 : Rho} {g : D → Option D} {Nx : Hp → Prop}
    (nx : Nxt C.W S α M H p acc H4) (ev : Ev C.W S (α ++ [[p]]) ρ3 (M ++ [.l acc]) σ2 H4) (Y : Yl C S (α ++ [[p]]) H4 J es.length (fun i => es[i]?) G) (hG : ∀ α' H', Gr0 (α ++ [[p]]) α' H4 H' → G α' H')
    (hl : (acc ++ es.filterMap g).length < 10000000) (hs : ∀ (i : Nat) e, es[i]? = some e → LcTurn C scope vs1 tg1 ifs1 elt ρ3 M e (g e)) (hd : ∀ H', Nxt C.W S α M H p (acc ++ es.filterMap g) H' → Nx H') :
    ∃ W1 : Nat → Nat → Hp → Prop, (∃ m, W1 0 m H4) ∧ ∀ j k H, W1 j k H →
      (J.stop j H ∧ Nx H) ∨ (J.go j H ∧ ∃ Nx1 : Hp → Prop, (∀ H', Nx1 H' → ∃ k', k' < k ∧ W1 (j + 1) k' H') ∧ ∀ x H', J.yld j H x H' → gBk C scope tg1 x (L2.wipe σ2 vs1) H' fun σ3 H5 => L2.wipe σ3 vs1 = L2.wipe σ2 vs1 ∧ tsBk C scope ifs1 σ3 H5 fun b H6 =>
        if b = true then eBk C scope elt σ3 H6 fun y H7 => ∃ acc, H7 p = some (.lst acc) ∧ acc.length < sizeLine ∧ Nx1 (upd H7 p (.lst (acc ++ [y]))) else Nx1 H6) := by
  refine ⟨fun i m H' => m = es.length - i ∧ i ≤ es.length ∧ Nxt C.W S α M H p (acc ++ (es.take i).filterMap g) H' ∧ Gr (α ++ [[p]]) [] H4 H', ⟨es.length, by simp, Nat.zero_le _, by simpa using nx, Gr.refl⟩, ?_⟩
  rintro i m H2 ⟨rfl, hi, n2, g2⟩
  have gg : Gr0 (α ++ [[p]]) (α ++ [[p]]) H4 H2 := ⟨[], (app_nil _).symm, g2⟩
  by_cases hlt : i < es.length
  · refine .inr ⟨Y.go i _ H2 hlt (hG _ _ gg), fun H' => Nxt C.W S α M H p (acc ++ (es.take (i + 1)).filterMap g) H' ∧ Gr (α ++ [[p]]) [] H4 H', fun H' z => ⟨es.length - (i + 1), by omega, rfl, hlt, z.1, z.2⟩, fun v H3 y => ?_⟩
    obtain ⟨sm, d, hd', r⟩ := Y.yld i _ H2 v H3 (M ++ [.l (acc ++ (es.take i).filterMap g)]) hlt (hG _ _ gg) gg n2.1 y
    have n3 : Nxt C.W S α M H p (acc ++ (es.take i).filterMap g) H3 := ⟨by have z := n2.1.on' sm; rw [app_nil] at z; exact z, by have z := n2.2.trans (Gr.same sm); rw [app_nil] at z; exact z⟩
    have g3 : Gr (α ++ [[p]]) [] H4 H3 := g2.trans (by rw [app_nil]; exact Gr.same sm)
    have ev2 : Ev C.W S (α ++ [[p]]) ρ3 (M ++ [.l (acc ++ (es.take i).filterMap g)]) σ2 H3 := by
      have z := ev.up g3 (M' := M ++ [.l (acc ++ (es.take i).filterMap g)]) (by rw [app_nil]; exact n3.1)
      rw [app_nil] at z; exact z
    have e : (es.take (i + 1)).filterMap g = (es.take i).filterMap g ++ (g d).toList := by
      rw [List.take_add_one, hd', List.filterMap_append]
      cases h : g d <;> simp [h]
    have ha : (acc ++ (es.take i).filterMap g).length < 10000000 := by
      refine Nat.lt_of_le_of_lt ?_ hl
      rw [List.length_append, List.length_append]
      have : ((es.take i).filterMap g).Sublist (es.filterMap g) := (List.take_sublist i es).filterMap g
      have := this.length_le
      omega
    intro X' hX'
    refine (hs i d hd' _ ha).run X' hX' S (α ++ [[p]]) _ _ H3 _ v (ev2.wipe vs1) r fun ρ' σ' pp hw ev3 => ⟨hw.trans wipe_idem, ?_⟩
    have z := lcI_turn hif n3 ha ev3 pp.out
    rw [put_fm] at z
    refine ts_mono hif z fun H' z => ⟨?_, g3.trans (by rw [app_nil]; exact z.2)⟩
    rw [e, ← List.append_assoc]; exact z.1
  · have e : i = es.length := by omega
    subst e
    rw [List.take_length] at n2
    exact .inl ⟨Y.stop _ H2 (hG _ _ gg), hd _ n2⟩
theorem flatF_le {F : D → List D} (ds : List D) (n : Nat) : ((ds.take n).flatMap F).length ≤ (ds.flatMap F).length := by
  have e : ds.flatMap F = (ds.take n).flatMap F ++ (ds.drop n).flatMap F := by rw [← List.flatMap_append, List.take_append_drop]
  rw [e, List.length_append]; omega
theorem lc2_read {own : List (Str × Nat)} {vs1 : List Nat} (hif : ifs1.length ≤ 1) {S : Addr → Prop} {α0 α : Als} {H0 H : Hp} {σ : L2.St} {Q : VK} (bs : Bs C S α0 H0) (g : Gr0 α0 α H0 H) (ev : Ev C.W S α ρ M σ H) (q : PostE C S α H Ψ Q)
    (h : WY C tg iter ρ M fun ds M1 => ∃ F : D → List D, (ds.flatMap F).length < 10000000 ∧ (∀ (i : Nat) d, ds[i]? = some d → LcTurn2 C scope (own.map (·.2)) vs1 tg tg1 iter1 ifs1 elt ρ M1 d (F d)) ∧ Ψ (.m M1.length) (M1 ++ [.l (ds.flatMap F)])) :
    tLc2 (uY C.X tg iter) (gBk C scope tg) (tsBk C scope []) (yBk C scope tg1 iter1) (gBk C scope tg1) (tsBk C scope ifs1) (eBk C scope elt) (own.map (·.2)) vs1 σ H Q := by
  refine h.run S α0 H0 α σ H _ bs g ev fun ds M1 β J H1 G p1 em1 g1 Y hG => ?_
  obtain ⟨F, hn, h1, h2⟩ := p1
  intro p hp
  refine lcy_turns (bd := fun σ2 H2 Nx => tsBk C scope [] σ2 H2 fun b H3 =>
    if b = true then yBk C scope tg1 iter1 σ2 H3 fun J1 H4 => ∃ W1 : Nat → Nat → Hp → Prop, (∃ m, W1 0 m H4) ∧ ∀ j k H, W1 j k H →
      (J1.stop j H ∧ Nx H) ∨ (J1.go j H ∧ ∃ Nx1 : Hp → Prop, (∀ H', Nx1 H' → ∃ k', k' < k ∧ W1 (j + 1) k' H') ∧ ∀ x H', J1.yld j H x H' → gBk C scope tg1 x (L2.wipe σ2 vs1) H' fun σ3 H5 => L2.wipe σ3 vs1 = L2.wipe σ2 vs1 ∧ tsBk C scope ifs1 σ3 H5 fun b H6 =>
        if b = true then eBk C scope elt σ3 H6 fun y H7 => ∃ acc, H7 p = some (.lst acc) ∧ acc.length < sizeLine ∧ Nx1 (upd H7 p (.lst (acc ++ [y]))) else Nx1 H6)
    else Nx H3) em1 (ev.up g1 em1) Y F hG (fun i d acc H2 v hd eacc nx r ev2 => ?_) (thnE q g1) h2 hp
  intro X' hX'
  have ha : acc.length < 10000000 := by rw [eacc]; exact Nat.lt_of_le_of_lt (flatF_le ds i) hn
  refine (h1 i d hd acc ha).run X' hX' S (α ++ β ++ [[p]]) _ _ H2 _ v ev2 r fun ρ' σ' pp hw ev3 => ⟨hw.trans wipe_idem, ?_⟩
  show (if true = true then _ else Nxt C.W S (α ++ β) M1 H1 p (acc ++ F d) H2)
  rw [if_pos rfl]
  intro X2 hX2
  have hlen : (α ++ β ++ [[p]]).length = M1.length + 1 := by rw [← nx.1.len]; simp
  refine (pp.out X2 hX2).run S (α ++ β ++ [[p]]) H2 (α ++ β ++ [[p]]) σ' H2 _ (bs_bk (C := C) (X := X2) (n := M1.length + 1) hlen nx.1.trA) Gr0.refl ev3 fun es M4 β4 J1 H4 G4 p4 em4 g4 Y4 hG4 => ?_
  obtain ⟨e4, g5, h5, h6⟩ := p4
  subst e4
  have hβ : β4 = [] := by
    have l1 := em4.len
    have l2 := nx.1.len
    rw [List.length_append] at l1
    simp only [List.length_append, List.length_cons, List.length_nil] at l1 l2
    exact List.eq_nil_of_length_eq_zero (by omega)
  subst hβ
  rw [app_nil] at em4 Y4 hG4
  have nx4 : Nxt C.W S (α ++ β) M1 H1 p acc H4 := ⟨em4, by have z := nx.2.trans g4; rw [app_nil] at z; exact z⟩
  have ev4 : Ev C.W S (α ++ β ++ [[p]]) ρ' (M1 ++ [.l acc]) σ' H4 := by
    have z := ev3.up g4 (M' := M1 ++ [.l acc]) (by rw [app_nil]; exact em4)
    rw [app_nil] at z; exact z
  refine lc_inner (g := g5) hif nx4 ev4 ⟨Y4.go, Y4.stop, Y4.yld⟩ hG4 ?_ h5 fun H' z => by rw [h6] at z; exact z
  rw [h6, eacc]
  have e : (ds.take (i + 1)).flatMap F = (ds.take i).flatMap F ++ F d := by rw [List.take_add_one, hd]; simp
  rw [← e]
  exact Nat.lt_of_le_of_lt (flatF_le ds (i + 1)) hn
/-- [elt for tg in iter for tg1 in iter1 (if c)] -/
theorem we_lc2 (own : List (Str × Nat)) (vs vs1 : List Nat) {sc : Scope} (ok : Cok C P w K mg base N gs Vi Li k) (hE : ∃ q L f cdv, C.X.env = PyProof.Rows.envOfC q sc L f cdv) (hb : blkC N sc scope own = true)
    (h : WY C tg iter ρ M fun ds M1 => ∃ F : D → List D, (ds.flatMap F).length < 10000000 ∧ (∀ (i : Nat) d, ds[i]? = some d → LcTurn2 C scope vs vs1 tg tg1 iter1 ifs1 elt ρ M1 d (F d)) ∧ Ψ (.m M1.length) (M1 ++ [.l (ds.flatMap F)]))
    (hv1 : ∀ i ∈ vs1, i ∈ vs := by decide) (hvs : own.map (·.2) = vs := by rfl) (hif : Nat.ble ifs1.length 1 = true := by rfl) (hf : ∀ y, foldedSetIterable iter C.X.env y = pure y := by intro _; rfl) (hf1 : ∀ env y, foldedSetIterable iter1 env y = pure y := by intro _ _; rfl) : WE C (.ListComp elt [⟨tg, iter, [], 0⟩, ⟨tg1, iter1, ifs1, 0⟩] scope pos) ρ M Ψ := by
  subst hvs
  exact ⟨fun S α0 H0 α σ H Q bs g ev q => uE_of (pe_lc2 (vs1 := vs1) ok.calm (by rw [ok.nE]; exact ok.nd) pi_u (bo_of ok hE hb) hv1 (fun _ _ _ _ _ => pgx_bk) (fun _ _ _ _ _ => ptsx_bk (ifs := []) (Nat.zero_le 1)) (fun _ _ _ _ _ => pix_bk) (fun _ _ _ _ _ => pgx_bk) (fun _ _ _ _ _ => ptsx_bk (Nat.le_of_ble_eq_true hif)) (fun _ _ _ _ _ => pe_bk) hf hf1)
    (lc2_read (own := own) (Nat.le_of_ble_eq_true hif) bs g ev q h)⟩
/-- y = [elt for tg in iter for tg1 in iter1 (if c)] -/
theorem w1_sLc2 (own : List (Str × Nat)) (vs vs1 : List Nat) {sc : Scope} {i : Nat} {y : Str} {py spos : Pos} (B : Ls C.X y i) (ok : Cok C P w K mg base N gs Vi Li k) (hE : ∃ q L f cdv, C.X.env = PyProof.Rows.envOfC q sc L f cdv) (hb : blkC N sc scope own = true)
    (hy : sc.names.lookup y = some .local) (hsw : ∀ q L f cdv, swapsWith (.ListComp elt [⟨tg, iter, [], 0⟩, ⟨tg1, iter1, ifs1, 0⟩] scope pos) (some (.Name y py)) spos.line (PyProof.Rows.envOfC q sc L f cdv) = pure true)
    (h : WY C tg iter ρ M fun ds M1 => ∃ F : D → List D, (ds.flatMap F).length < 10000000 ∧ (∀ (i : Nat) d, ds[i]? = some d → LcTurn2 C scope vs vs1 tg tg1 iter1 ifs1 elt ρ M1 d (F d)) ∧ Clo M.length (.m M1.length) (M1 ++ [.l (ds.flatMap F)]) fun v M2 => Nrm (ρ.set i (some v)) M2 Φ.nx)
    (hv1 : ∀ i ∈ vs1, i ∈ vs := by decide) (hvs : own.map (·.2) = vs := by rfl) (hif : Nat.ble ifs1.length 1 = true := by rfl) (hf : ∀ y, foldedSetIterable iter C.X.env y = pure y := by intro _; rfl) (hf1 : ∀ env y, foldedSetIterable iter1 env y = pure y := by intro _ _; rfl) :
    W1 C (.Assign [.Name y py] (.ListComp elt [⟨tg, iter, [], 0⟩, ⟨tg1, iter1, ifs1, 0⟩] scope pos) spos) ρ M Φ := by
  subst hvs
  refine ⟨fun S α0 H0 α σ H D bs g ev f => uS_of (ps_setLc2 (i := i) (vs1 := vs1) ok.calm (by rw [ok.nE]; exact ok.nd) B.nm (lkl hE hy) (swl hE hsw) pi_u (bo_of ok hE hb) hv1 (fun _ _ _ _ _ => pgx_bk) (fun _ _ _ _ _ => ptsx_bk (ifs := []) (Nat.zero_le 1)) (fun _ _ _ _ _ => pix_bk) (fun _ _ _ _ _ => pgx_bk) (fun _ _ _ _ _ => ptsx_bk (Nat.le_of_ble_eq_true hif)) (fun _ _ _ _ _ => pe_bk) hf hf1) ?_⟩
  show tLc2 (uY C.X tg iter) (gBk C scope tg) (tsBk C scope []) (yBk C scope tg1 iter1) (gBk C scope tg1) (tsBk C scope ifs1) (eBk C scope elt) (own.map (·.2)) vs1 σ H fun u H1 => D.nx (σ.set i (some u)) H1
  refine lc2_read (own := own) (Nat.le_of_ble_eq_true hif) bs g ev (Ψ := fun v M2 => Clo M.length v M2 fun v M2 => Nrm (ρ.set i (some v)) M2 Φ.nx) (fun v M1 β u H1 p1 em1 g1 r1 => ?_) h
  obtain ⟨c, M', α', hh, he, ⟨γ, eγ, gγ⟩, hr⟩ : ∃ a' M' α', Nrm (ρ.set i (some a')) M' Φ.nx ∧ EM C.W S α' M' H1 ∧ Gr0 α α' H H1 ∧ RepA C.W S α' H1 a' u :=
    clo_ok (C := { C with n0 := M.length, T := fun _ _ _ _ => False }) ⟨ev.em.len.symm, ev.em.trA, fun _ _ _ _ => False, (fun _ _ ⟨_, _, _, _, _, _, _, _, _, _, _, _, _, _, _, _, z⟩ => z.elim), fun _ _ _ _ _ _ _ _ _ z => z.elim⟩ ⟨β, rfl, g1⟩ em1 r1 p1
  subst eγ
  exact f.nx _ M' (α ++ γ) _ H1 hh.out ((ev.up gγ he).set i hr) (g.trans gγ)
end
end Dl

/-! DLK: list(reversed(xs)), sorted and index of tuples. -/
namespace DlK
open PySem PyProof.Rows RT
section
variable {prog : Program} {w : World} {A : Around} {E : Value → Shared → Prop} {s : Shared}
/-- the rest of a reversed list put behind an empty list -/
theorem ext_rev {R : Result → Shared → Prop} {it l : Addr} {items : Array Value} (hh : A.handled = none) (hit : s.heap.IsRevIter it l ((items.size : Int) - 1)) (hl : s.heap.IsList l items) (hne : l ≠ it) (hn : items.size ≤ sizeLine)
    (T : Addr) (res : Value) (n0 : Nat) (hT : s.heap.get? T = some { cls := .type "list", data := .seq #[] n0 }) (hTi : T ≠ it) (hTl : T ≠ l)
    (k : ∀ h' tk acc n', (∀ b o, b ≠ T → b ≠ it → s.heap.get? b = some o → h'.get? b = some o) → h'.get? T = some { cls := .type "list", dict := none, data := .seq acc n', slots := #[] } →
      ItemsOf (fun i v => items[items.size - 1 - i]? = some v) acc items.size → R (.ok (.ret res)) { s with heap := h', toks := tk }) :
    wpAny (model prog w) A.in1 (Builtin.List.listExtendWith (.ref T) (.ref it) res)
      (fun fin s' => match fin with | .done f => R (.ok f) s' | .again c' => c'.quiet = true ∧ codeAny (model prog w) A c' R s') (fun e s' => R (.error e) s') s := by
  have W := (Walks.listRev (prog := prog) (w := w) (A := A.in1) hh it l hne items).toS
  have hTf : T ∉ [it, l] := by simp only [List.mem_cons, List.not_mem_nil, or_false, not_or]; exact ⟨hTi, hTl⟩
  have tIt : s.TypeIs (.ref it) "list_reverseiterator" := hit.typeIs
  have ns : Builtin.List.listSameRef (.ref T) (.ref it) = false := by simp [Builtin.List.listSameRef, hTi]
  unfold Builtin.List.listExtendWith
  refine wpAny_bind (wpAny_typeOf tIt ?_)
  rw [if_neg (by rw [ns]; decide)]
  refine wpAny_bind (wpAny_pyIter_revIter hit ?_)
  refine wpAny_bind (wpAny_holding ?_)
  unfold Builtin.List.listLengthHint
  refine wpAny_bind (wpAny_specialOf tIt nolen_lri ?_)
  show wpAny _ A.in1 (specialOf (Value.ref it) (Str.ofString "__length_hint__") >>= _) _ _ _
  refine wpAny_bind (wpAny_specialOf tIt hint_lri ?_)
  generalize eid : ("list_reverseiterator.__length_hint__" : String) = jd
  wp_delta
  rw [show splitId jd = some ("list_reverseiterator", "__length_hint__") from by subst eid; decide +kernel]
  subst eid
  refine wpAny_bind (wpAny_isInstance (b := true) tIt (by rw [isSubtype_type]; kernel_rfl) ?_)
  refine wpAny_pure ?_
  rw [if_neg (by decide)]
  have z0 : ((items.size : Nat) : Int) - 1 - ((0 : Nat) : Int) = (items.size : Int) - 1 := by omega
  refine wpAny_pure ⟨plainId_quiet F.plain_extend_loop _, codeAny_extend_loopS W hn _ hTf _ items.size 0 _ _ _ rfl (Nat.zero_le _) ⟨Nat.zero_le _, by rw [z0]; exact hit, hl⟩ hT (ItemsOf.nil _) fun s2 acc n' mv hT2 hacc => ?_⟩
  rw [Moved.eq_with mv]
  refine k s2.heap s2.toks acc n' (fun b o b1 b2 e => mv.heap b o (fun hm => ?_) e) hT2 hacc
  rcases List.mem_cons.mp hm with q | q
  · exact b1 q
  · exact b2 (List.mem_singleton.mp q)
theorem new_list_rev {it l : Addr} {items : Array Value} {Q : Value → Shared → Prop} (hh : A.handled = none) (hit : s.heap.IsRevIter it l ((items.size : Int) - 1)) (hl : s.heap.IsList l items) (hne : l ≠ it) (hn : items.size ≤ sizeLine)
    (k : ∀ h' tk acc n', (∀ b o, b ≠ it → s.heap.get? b = some o → h'.get? b = some o) → h'.get? s.heap.objs.size = some { cls := .type "list", dict := none, data := .seq acc n', slots := #[] } →
      ItemsOf (fun i v => items[items.size - 1 - i]? = some v) acc items.size → Q (.ref s.heap.objs.size) { s with heap := h', toks := tk }) :
    wpAny (model prog w) A (call (.type "list") [.ref it]) Q E s := by
  obtain ⟨oi, hoi, _⟩ := id hit
  obtain ⟨ol, hol, _⟩ := id hl
  have n1 : s.heap.objs.size ≠ it := Nat.ne_of_gt (Heap.lt_size hoi)
  have n2 : s.heap.objs.size ≠ l := Nat.ne_of_gt (Heap.lt_size hol)
  refine callType_codes (Q₁ := fun x s₁ => x = .ref s.heap.objs.size ∧ s₁ = { s with heap := s.heap.push { cls := .type "list", data := .seq #[] } }) F.called_list (F.typeCall_list_1 _) F.entry_list_init
    (code_list_new _ ⟨rfl, rfl⟩) fun x s₁ hx => ?_
  obtain ⟨rfl, rfl⟩ := hx
  have e1 : (s.heap.push { cls := .type "list", data := .seq #[] }).get? s.heap.objs.size = some { cls := .type "list", data := .seq #[] } := Heap.get?_push_size _ rfl
  refine ⟨⟨_, e1, rfl⟩, F.args_list_init_2 _ _, ?_⟩
  show wpAny _ A.in1.in1 (do let old ← Builtin.List.listItems (.ref s.heap.objs.size); Builtin.List.listUpdate (.ref s.heap.objs.size) (fun _ => #[]); letGo old.toList.reverse; Builtin.List.listExtendWith (.ref s.heap.objs.size) (.ref it) .none) _ _ _
  refine wpAny_bind ?_
  unfold Builtin.List.listItems
  refine wpAny_bind (wpAny_seqItems e1 rfl (wpAny_pure ?_))
  show wpAny _ A.in1.in1 (updateSeq s.heap.objs.size (fun _ => #[]) >>= fun _ => letGo (#[] : Array Value).toList.reverse >>= fun _ => Builtin.List.listExtendWith (.ref s.heap.objs.size) (.ref it) .none) _ _ _
  refine wpAny_bind (wpAny_updateSeq e1 rfl ?_)
  have e2 := Heap.get?_update_self (Obj.mapSeq (fun _ => (#[] : Array Value))) e1 rfl
  have keep : ∀ b o, s.heap.get? b = some o → ((s.heap.push { cls := .type "list", data := .seq #[] }).update s.heap.objs.size (Obj.mapSeq (fun _ => (#[] : Array Value)))).get? b = some o :=
    fun b o e => (Heap.get?_update_other _ _ (Nat.ne_of_gt (Heap.lt_size e))).trans (Heap.get?_push_of_some _ e)
  refine wpAny_bind (wpAny_letGo ?_)
  refine ext_rev (A := A.in1) (items := items) (l := l) hh (hit.at fun o e => keep _ _ e) (by obtain ⟨o, ho, hc, n, hd⟩ := hl; exact ⟨o, keep _ _ ho, hc, n, hd⟩) hne hn _ .none _ e2 n1 n2 fun h' tk acc n' kk e3 hacc => ?_
  exact ⟨rfl, k h' tk acc n' (fun b o hb e => kk b o (Nat.ne_of_lt (Heap.lt_size e)) hb (keep b o e)) e3 hacc⟩
/-- a tuple collected -/
theorem gather_tup {l : Addr} {vs : List Value} {Q : List Value → Shared → Prop} (hl : s.heap.IsTuple l vs.toArray) (hz : vs.length ≤ sizeLine)
    (k : Q vs { s with heap := (s.heap.push (seqObj "list" #[] 0)).update s.heap.objs.size (Obj.mapSeq (· ++ vs.toArray)) }) : wpAny (model prog w) A (collect (.ref l)) Q E s := by
  obtain ⟨o, ho, hc, n, hd⟩ := id hl
  unfold collect
  refine wpAny_bind (wpAny_runValue (codeAny_builtin entry_proto_collect' ?_))
  show wpAny _ _ (newList [] >>= fun t => again (.builtin "list.__iadd__" ⟨[t, .ref l], []⟩)) _ _ s
  refine wpAny_bind (wpAny_newList (wpAny_pure ⟨Code.quiet_builtin _ (by decide +kernel), codeAny_builtin entry_list_iadd' ?_⟩))
  show wpAny _ _ (Builtin.List.listExtendWith (.ref s.heap.objs.size) (.ref l) (.ref s.heap.objs.size)) _ _ _
  unfold Builtin.List.listExtendWith
  have h2 : (s.heap.push (seqObj "list" #[] 0)).get? l = some o := Heap.get?_push_of_some _ ho
  refine wpAny_bind (wpAny_typeOf (T := "tuple") ⟨o, h2, hc⟩ ?_)
  rw [if_pos (by rw [show (Value.type "tuple" == Value.type "tuple") = true from rfl]; simp)]
  refine wpAny_bind (listItems_at h2 hd ?_)
  refine wpAny_bind (listItems_at (n := 0) (xs := #[]) (Heap.get?_push_size _ rfl) rfl ?_)
  rw [if_neg (by simp)]
  refine wpAny_bind (listUpdate_at (n := 0) (xs := #[]) (Heap.get?_push_size _ rfl) rfl ?_ (Nat.zero_le _) (by show (#[] ++ vs.toArray).size ≤ sizeLine + 1; simp only [Array.size_append, List.size_toArray, List.length_nil]; omega))
  refine wpAny_pure ?_
  show wpAny (model prog w) A (load s.heap.objs.size >>= fun o => match o.data with
      | .seq xs _ => pure xs.toList
      | _ => unsupported "internal:collect") Q E { s with heap := (s.heap.push (seqObj "list" #[] 0)).update s.heap.objs.size (Obj.mapSeq (· ++ vs.toArray)) }
  refine wpAny_bind (wpAny_load (get?_update_seq (Heap.get?_push_size _ rfl) _) ?_)
  show wpAny _ _ (pure ((#[] : Array Value) ++ vs.toArray).toList) Q E _
  have ev : ((#[] : Array Value) ++ vs.toArray).toList = vs := by simp
  rw [ev]
  exact wpAny_pure k
open SrtO Srt in
/-- sorted of a tuple: the new list stands at size + 1 -/
theorem sorted_tup {l : Addr} {vs : List Value} {ltv : Value → Value → Bool} {Q : Value → Shared → Prop} (O : Swo ltv) (hl : s.heap.IsTuple l vs.toArray) (hz : vs.length ≤ sizeLine)
    (hS : 2 ≤ vs.length → ∀ (h₁ : Heap) (a : Addr), h₁.get? a = some (seqObj "list" vs.toArray 0) → (∀ b o, s.heap.get? b = some o → b ≠ a ∧ h₁.get? b = some o) → SortableO prog w A.in1.in1 { s with heap := h₁ } a vs ltv)
    (k : ∀ out : List Value, Srtd ltv out → Stb ltv out vs → Q (.ref (s.heap.objs.size + 1)) { s with heap := sortedAll s.heap vs out.toArray }) :
    wpAny (model prog w) A (call (.builtin "sorted") [.ref l]) Q E s := by
  refine Calls.call_function_entry kind_sorted plain_sorted entry_sorted (args_sorted1 _) ?_
  unfold Builtin.«sorted»
  refine wpAny_bind (m := checkCount "sorted" 1 1 _) (wpAny_pure ?_)
  refine wpAny_bind (gather_tup hl hz ?_)
  refine wpAny_bind (wpAny_newList ?_ hz)
  have sz : ((s.heap.push (seqObj "list" #[] 0)).update s.heap.objs.size (Obj.mapSeq (· ++ vs.toArray))).objs.size = s.heap.objs.size + 1 := by
    rw [Heap.size_update, size_push']
  have at1 : (((s.heap.push (seqObj "list" #[] 0)).update s.heap.objs.size (Obj.mapSeq (· ++ vs.toArray))).push (seqObj "list" vs.toArray 0)).get? (s.heap.objs.size + 1) = some (seqObj "list" vs.toArray 0) := by
    rw [← sz]; exact Heap.get?_push_size _ rfl
  have kp : ∀ b o, s.heap.get? b = some o → b ≠ s.heap.objs.size + 1 ∧ (((s.heap.push (seqObj "list" #[] 0)).update s.heap.objs.size (Obj.mapSeq (· ++ vs.toArray))).push (seqObj "list" vs.toArray 0)).get? b = some o := fun b o q => by
    have lt : b < s.heap.objs.size := Heap.lt_size q
    refine ⟨Nat.ne_of_lt (Nat.lt_succ_of_lt lt), Heap.get?_push_of_some _ ?_⟩
    rw [Heap.get?_update_ne _ _ _ _ (Nat.ne_of_lt lt)]
    exact Heap.get?_push_of_some _ q
  show wpAny _ _ _ _ _ { s with heap := ((s.heap.push (seqObj "list" #[] 0)).update s.heap.objs.size (Obj.mapSeq (· ++ vs.toArray))).push (seqObj "list" vs.toArray 0) }
  rw [sz]
  refine wpAny_bind (wpAny_holding (wpAny_call_entry slot_list_sort ⟨_, at1, rfl⟩ entry_list_sort (list_sort_ord O at1 hz (fun h2 => hS h2 _ _ at1 kp) fun out hs hb => ⟨_, rfl, ?_⟩) (args_list_sort _)))
  exact wpAny_pure ⟨_, rfl, k out hs hb⟩
end
end DlK
namespace Dl
open PySem PySem.Spec PyProof.Rows L2
section
variable {X : Cx}
/-- sorted(t), a tuple of ints -/
theorem cr_sortedTI : CallR X (.builtin "sorted") fun vs H Q => ∃ (a : Addr) (ns : List Int), vs = [V.ref a] ∧ SqT X.K H a (ns.map V.int) ∧
    ∀ (ns' : List Int) (p : Addr), ns'.Perm ns → ns'.Pairwise (· ≤ ·) → H p = none → Q (.ref p) (upd H p (.lst (ns'.map V.int))) := by
  intro pins s σ H vs us Q I r h
  obtain ⟨a, ns, rfl, hs, q⟩ := h
  obtain ⟨its, rv, hl, hz⟩ := I.tuple hs
  rw [Vals.ref1 r]
  have hi := rv.ints
  refine DlK.sorted_tup SrtO.swo_int (show s.heap.IsTuple a its.toArray from hl) (by rw [← rv.length]; exact hz) (fun h2 h₁ a' _ _ => SrtO.ints_sortable hi h2) fun out h1 h2 => ?_
  obtain ⟨k1, k2, k3⟩ := SrtO.ints_out hi h1 h2
  obtain ⟨ep, at2⟩ := PyProof.Rows.sortedAll_at s.heap its out.toArray
  have len : ((out.map SrtO.iv).map V.int).length ≤ sizeLine := by
    rw [List.length_map, k2.length_eq]
    rw [List.length_map] at hz
    exact hz
  exact ⟨.ref _, upd H (s.heap.objs.size + 1) (.lst ((out.map SrtO.iv).map V.int)), I.laid (t' := s.toks) (fun _ _ => PyProof.Rows.sortedAll_old) (Nat.le_succ _) ⟨len, out, ep, vals_of_ints k1, at2⟩, rfl, q _ _ k2 k3 (I.hok.fresh (Nat.le_succ _))⟩
/-- list(reversed(xs)), xs a list -/
theorem pe_listRev {e : Expr} {te : TE} {p p2 pos pos2 : Pos} (hc : X.calm = true) (hg : Gl X "list") (hm : X.mg "list" = none) (hg2 : Gl X "reversed") (hm2 : X.mg "reversed" = none) (he : PE X e te)
    (hs : starEach [e] X.env = (false, eval e X.env) :: starEach [] X.env := by rfl)
    (hs2 : starEach [.Call (.Name "reversed" p2) [e] [] pos2] X.env = (false, eval (.Call (.Name "reversed" p2) [e] [] pos2) X.env) :: starEach [] X.env := by rfl) :
    PE X (.Call (.Name "list" p) [.Call (.Name "reversed" p2) [e] [] pos2] [] pos) fun σ H Q => te σ H fun v H1 => ∃ (a : Addr) (xs : List V), v = .ref a ∧ SqL X.K H1 a xs ∧ ∀ q, H1 q = none → Q (.ref q) (upd H1 q (.lst xs.reverse)) := by
  refine ⟨fun pins s σ H Q I h => ?_⟩
  refine Call_ (ld_blt I hg hm boot_list (PyProof.Rows.callWith_type1 (args_cons (Call_ (ld_blt I hg2 hm2 PyProof.Rows.boot_reversed (PyProof.Rows.callWith_type1 (args_cons (thn (he.run pins s σ H _ I h) fun u s1 ⟨v, H1, I1, r1, q1⟩ => args_nil ?_) hs) hs rfl))) hs2) hs2 rfl))
  obtain ⟨a, xs, ev, hq, q⟩ := q1
  subst ev
  obtain rfl : u = Value.ref a := r1
  obtain ⟨its, rv, pl, hz⟩ := I1.list hq
  refine call_reversed_list pl.isList (args_nil ?_)
  have I2 : Inv X pins σ H1 { s1 with heap := s1.heap.push (revObj a ((its.toArray.size : Int) - 1)) } := I1.kept (t' := s1.toks) fun b o e => Heap.get?_push_of_some _ e
  obtain ⟨f0, f1, f2, f3, f4, f5⟩ := I1.fpOk (H' := H1) (b := s1.heap.objs.size) (Nat.le_refl _) (I1.hok.fresh (Nat.le_refl _))
  have hl := pl.isList
  obtain ⟨ol, hol, _⟩ := id hl
  have ne : a ≠ s1.heap.objs.size := Nat.ne_of_lt (Heap.lt_size hol)
  have hn : its.toArray.size ≤ sizeLine := by rw [List.size_toArray, ← rv.length]; exact hz
  refine DlK.new_list_rev (s := { s1 with heap := s1.heap.push (revObj a ((its.toArray.size : Int) - 1)) }) (I1.ok.hd hc) ⟨_, Heap.get?_push_size _ rfl, rfl, rfl⟩ (hl.push _) ne hn fun h' tk acc n' kk at2 hi => ?_
  have sz : (s1.heap.push (revObj a ((its.toArray.size : Int) - 1))).objs.size = s1.heap.objs.size + 1 := by rw [Heap.size_push]
  have at3 : h'.get? (s1.heap.objs.size + 1) = some { cls := .type "list", dict := none, data := .seq acc n', slots := #[] } := by rw [← sz]; exact at2
  have rb := RT.vals_rev rv hi
  refine ⟨.ref (s1.heap.objs.size + 1), upd H1 (s1.heap.objs.size + 1) (.lst xs.reverse), Inv.turnedNew (X := X) (ch := [s1.heap.objs.size]) I2 (t' := tk) (fun b o hb e => kk b o (fun z => hb (by simp [z])) e) (fun b hb => by simp at hb; subst hb; exact ⟨f0, f1, f2, f3, f4, f5⟩) (by rw [sz]; exact Nat.le_refl _) (show ObjOk X.prog X.w _ _ _ (.lst xs.reverse) from ⟨by rw [List.length_reverse]; exact hz, acc.toList, n', rb, ?_⟩), ?_, q _ (I1.hok.fresh (Nat.le_succ _))⟩
  · rw [Array.toArray_toList]; exact at3
  · show Value.ref _ = Value.ref _
    rw [sz]
/-- t.index(x), ints: the first place -/
theorem mt_tup_indexI : MtR X "tuple.index" (fun x xs H Q => ∃ p, ∃ ys : List Int, ∃ z j, x = .ref p ∧ xs = [.int z] ∧ SqT X.K H p (ys.map V.int) ∧ ys[j]? = some z ∧ (∀ m : Nat, m < j → ys[m]? ≠ some z) ∧ Q (.int (j : Nat)) H) := by
  intro pins s σ H x xs v us Q I rx rs h
  obtain ⟨p, ys, z, j, rfl, rfl, hq, hy, hno, q⟩ := h
  cases rx
  obtain ⟨u, rfl, t, rfl⟩ := vals1 rs
  obtain ⟨its, r, pl, hz⟩ := I.tuple hq
  obtain ⟨⟨cls, dd, dt, sl⟩, ho, hc, n, hd⟩ := pl
  simp only at hc hd
  subst hc
  subst hd
  have hl : its.toArray.size = ys.length := by rw [List.size_toArray, ← r.length, List.length_map]
  have hj : j < its.toArray.size := by rw [hl]; exact (List.getElem?_eq_some_iff.mp hy).1
  have iat : ∀ (m : Nat) (hm : m < its.toArray.size), ∃ y t', ys[m]? = some y ∧ its.toArray[m] = Value.int y t' := fun m hm => by
    have hm' : m < ys.length := by rw [← hl]; exact hm
    obtain ⟨w, hw, t', hw'⟩ := r.get (i := m) (x := .int ys[m]) (by simp [hm'])
    refine ⟨ys[m], t', List.getElem?_eq_getElem hm', ?_⟩
    have e := (List.getElem?_eq_some_iff.mp hw).2
    rw [← hw', ← e]
    simp
  refine call_meets PySem.F.slot_tuple_index ⟨_, ho, rfl⟩ PySem.F.entry_tuple_index (PySem.F.args_tuple_index_2 _ _) (TI.tuple_indexAt p its.toArray n dd sl (.int z t) (eqU (.int z)) j hj ?_ ?_)
    ⟨ho, fun w hw => mem_eqAt (x := .int z) ⟨t, rfl⟩ rfl r flat_ints w (by simpa using hw), ⟨.int (j : Nat), H, I.tok _, ⟨_, rfl⟩, q⟩⟩
  · obtain ⟨y, t', h1, h2⟩ := iat j hj
    rw [hy] at h1
    cases h1
    rw [h2]
    show (z == z) = true
    exact beq_self_eq_true z
  · intro m hm hmj
    obtain ⟨y, t', h1, h2⟩ := iat m hm
    rw [h2]
    show (y == z) = false
    exact beq_eq_false_iff_ne.mpr fun e => hno m hmj (e ▸ h1)
end
section
variable {C : Ctx} {a e : Expr} {ρ : Rho} {M : Mm} {Φ : Kn} {Ψ : AV → Mm → Prop} {pos p p2 pos2 : Pos}
theorem we_listV (wk : C.W.K = C.X.K) (hc : C.X.calm = true) (B1 : Bt C.X "list" "list") (B2 : Bt C.X "reversed" "reversed")
    (h : WE C a ρ M fun v M1 => ∃ ds, lstOf M1 v = some ds ∧ Ψ (.m M1.length) (M1 ++ [.l ds.reverse]))
    (hs : starEach [a] C.X.env = (false, eval a C.X.env) :: starEach [] C.X.env := by rfl)
    (hs2 : starEach [.Call (.Name "reversed" p2) [a] [] pos2] C.X.env = (false, eval (.Call (.Name "reversed" p2) [a] [] pos2) C.X.env) :: starEach [] C.X.env := by rfl) :
    WE C (.Call (.Name "list" p) [.Call (.Name "reversed" p2) [a] [] pos2] [] pos) ρ M Ψ := by
  refine ⟨fun S α0 H0 α σ H Q bs g ev q => uE_of (pe_listRev hc B1.gl B1.mg B2.gl B2.mg pe_u hs hs2) ?_⟩
  refine h.run S α0 H0 α σ H _ bs g ev fun v M1 β u H1 p1 em1 g1 r1 => ?_
  obtain ⟨ds, e, hh⟩ := p1
  obtain ⟨b, us, e2, sq, rr⟩ := lst_rep wk em1 e r1
  refine ⟨b, us, e2, sq, fun z hz => ?_⟩
  exact newM (m := .l ds.reverse) em1 (thnE q g1) hz ⟨z, _, rfl, upd_same, reps_rev (reps_new hz rr)⟩ hh
theorem wc_sortedT (wk : C.W.K = C.X.K) {ns : List Int} (h : ∀ ns' : List Int, ns'.Perm ns → ns'.Pairwise (· ≤ ·) → Ψ (.m M.length) (M ++ [.l (ns'.map .int)])) : WC C (.builtin "sorted") [.d (.tup (ns.map .int))] M Ψ := by
  refine ⟨fun S α H Q vs em r q => ?_⟩
  obtain ⟨v, e, h1⟩ := reps1 r
  obtain ⟨b, us, e2, sq, rr⟩ := (show ∃ a vs, v = .ref a ∧ TSq C.W (Av S α) H a vs ∧ Reps C.W (Av S α) H (ns.map .int) vs from h1)
  have eu := reps_ints rr
  subst eu
  refine uC_of cr_sortedTI ⟨b, ns, by rw [e, e2], wk ▸ sq.sq, fun ns' z hp ho hz => ?_⟩
  exact newM (m := .l (ns'.map .int)) em q hz ⟨z, _, rfl, upd_same, reps_ofInts ns'⟩ (h ns' hp ho)
theorem wm_indexT (wk : C.W.K = C.X.K) {ns : List Int} {x : Int} {j : Nat} (hj : ns[j]? = some x) (hno : ∀ m : Nat, m < j → ns[m]? ≠ some x) (h : Ψ (.d (.int (j : Nat))) M) : WM C "tuple.index" (.d (.tup (ns.map .int))) [.d (.int x)] M Ψ := by
  refine ⟨fun S α H Q v vs em r1 r2 q => ?_⟩
  obtain ⟨p, us, e, sq, rr⟩ := (show ∃ a vs, v = .ref a ∧ TSq C.W (Av S α) H a vs ∧ Reps C.W (Av S α) H (ns.map .int) vs from r1)
  have eu := reps_ints rr
  subst eu
  obtain ⟨y, e2, h2⟩ := reps1 r2
  have ey : y = .int x := h2
  subst ey
  exact uM_of mt_tup_indexI ⟨p, ns, x, j, e, e2, wk ▸ sq.sq, hj, hno, stayE (a := .d (.int (j : Nat))) (v := .int (j : Nat)) em q rfl h⟩
/-! ### freezing at once -/
/-- x = e, what e made is not changed any more -/
theorem w1_sF {x : Str} {i : Nat} {pos' : Pos} (B : Ls C.X x i) (h : WE C e ρ M fun v M' => Clo M.length v M' fun v2 M2 => Nrm (ρ.set i (some v2)) M2 Φ.nx)
    (hs : swapsWith e (some (.Name x pos')) pos.line C.X.env = pure false := by rfl) : W1 C (.Assign [.Name x pos'] e pos) ρ M Φ := w1_s B (we_clo h) hs
/-- a test: what it made is let go -/
theorem wt_clo {Ψ : Bool → Mm → Prop} (h : WT C e ρ M fun b M' => Nrm ρ (M'.take M.length) fun _ M2 => Ψ b M2) : WT C e ρ M Ψ := by
  refine ⟨fun S α0 H0 α σ H Q bs g ev q => ?_⟩
  refine h.run S α0 H0 α σ H _ bs g ev fun b M1 β H1 p1 em1 g1 => ?_
  have hl := ev.em.len
  have em2 := em1.take M.length
  rw [hl, List.take_left' rfl, ← hl] at em2
  exact q b _ [] H1 p1.out (by rw [app_nil]; exact em2) ⟨g1.kp, g1.st, fun l hl => by simp at hl⟩
end
end Dl

/-! DLL: small steps for the walks. -/
namespace Dl
open PySem L2
theorem call_isiG {X : Cx} : CallR X (.builtin "isinstance") fun xs H Q => ∃ (x : V) (tp : Addr) (cs : List V) (t : Value) (us : List Value) (b : Bool), xs = [x, .ref tp] ∧ SqT X.K H tp cs ∧ Paired ClsV cs us ∧ TyX X.K H x t ∧ PySem.W.kitAny X.K t us = some b ∧ Q (.bl b) H := by
  intro pins s σ H xs us Q I r h
  obtain ⟨x, tp, cs, t, ws, b, rfl, hT, k, ty, e, q⟩ := h
  obtain ⟨u1, u2, rfl, r1, r2⟩ := vals2 r
  cases (show u2 = Value.ref tp from r2)
  obtain ⟨P, Z, p, hx⟩ := kit_of I r1 ty
  obtain ⟨its, rv, ⟨⟨oc, od, dt, sl⟩, h1, h2, n, h3⟩, hz⟩ := I.tuple hT
  have e3 := ClsV.all k rv
  subst e3
  simp only at h2 h3
  subst h2 h3
  exact PySem.W.kia_tup Z I.kIn p h1 e hx fun tk => ⟨.bl b, H, I.tok tk, rfl, q⟩
/-- isinstance(x, (T1, T2)), all built-in -/
theorem wc_isi_bt {C : Ctx} {M : Mm} {Ψ : AV → Mm → Prop} (wk : C.W.K = C.X.K) {a : AV} {n : String} {Ts : List String} {b : Bool} (ht : bT M a = some n) (hk : ∀ K, PySem.W.kitAny K (.type n) (Ts.map .type) = some b) (h : Ψ (.d (.bl b)) M) : WC C (.builtin "isinstance") [a, .d (.tup (Ts.map .ty))] M Ψ :=
  ⟨fun S α H Q vs em r q => by
    obtain ⟨v, u, e, h1, h2⟩ := reps2 r
    obtain ⟨p, us, e2, sq, rr⟩ := (show ∃ a vs, u = .ref a ∧ TSq C.W (Av S α) H a vs ∧ Reps C.W (Av S α) H (Ts.map .ty) vs from h2)
    have eu : ∀ {Ts : List String} {us : List V}, Reps C.W (Av S α) H (Ts.map .ty) us → us = Ts.map V.ty ∧ Paired ClsV us (Ts.map .type) := by
      intro Ts
      induction Ts with
      | nil => intro us r; exact ⟨r, by rw [show us = [] from r]; exact .nil⟩
      | cons t Ts ih =>
        intro us r
        obtain ⟨v, w, e, z1, z2⟩ := (show ∃ v t', us = v :: t' ∧ Rep C.W (Av S α) H (.ty t) v ∧ Reps C.W (Av S α) H (Ts.map .ty) t' from r)
        obtain ⟨i1, i2⟩ := ih z2
        rw [e, show v = .ty t from z1, i1]
        exact ⟨rfl, .cons (.ty t) (by rw [← i1]; exact i2)⟩
    refine uC_of call_isiG ⟨v, p, us, .type n, Ts.map .type, b, by rw [e, e2], wk ▸ sq.sq, (eu rr).2, bT_ok wk em ht h1, hk _, stayE (a := .d (.bl b)) (v := .bl b) em q rfl h⟩⟩
def kitA2 (n T1 T2 : String) : Option Bool := match kitB n T1 with
  | some true => some true
  | some false => (match kitB n T2 with
    | some true => some true
    | some false => some false
    | none => none)
  | none => none
theorem kitA2_ok {n T1 T2 : String} {b : Bool} (h : kitA2 n T1 T2 = some b) (K : PySem.W.Frag) : PySem.W.kitAny K (.type n) [.type T1, .type T2] = some b := by
  unfold kitA2 at h
  show (match PySem.W.kitOne K (.type n) (.type T1) with
    | some true => some true
    | some false => (match PySem.W.kitOne K (.type n) (.type T2) with
      | some true => some true
      | some false => some false
      | none => none)
    | none => none) = some b
  exact h
theorem wc_isi_b2 {C : Ctx} {M : Mm} {Ψ : AV → Mm → Prop} (wk : C.W.K = C.X.K) {a : AV} {n T1 T2 : String} {b : Bool} (ht : bT M a = some n) (hk : kitA2 n T1 T2 = some b) (h : Ψ (.d (.bl b)) M) : WC C (.builtin "isinstance") [a, .d (.tup [.ty T1, .ty T2])] M Ψ :=
  wc_isi_bt (Ts := [T1, T2]) wk ht (kitA2_ok hk) h
/-- a name whose value is frozen at once -/
structure FzV (i : Nat) : Prop where
section
variable {P : Program} {w : World} {K : PySem.W.Frag} {mg : Str → Option Value} {base : Heap} {N gs : List Str} {Vi Li : List Nat} {k : Nat}
variable {C : Ctx} {e elt tg : Expr} {ρ : Rho} {M : Mm} {Φ : Kn} {pos : Pos} {scope : Scope} {vs vs1 : List Nat} {ifs : List Expr} {d : D} {o : Option D} {n : Nat} {M0 : Mm}
theorem w1_sz {x : Str} {i : Nat} {pos' : Pos} (B : Ls C.X x i) (z : FzV i) (h : WE C e ρ M fun v M' => Clo M.length v M' fun v2 M2 => Nrm (ρ.set i (some v2)) M2 Φ.nx)
    (hs : swapsWith e (some (.Name x pos')) pos.line C.X.env = pure false := by rfl) : W1 C (.Assign [.Name x pos'] e pos) ρ M Φ := w1_sF B h hs
theorem w1_szE {x : Str} {i : Nat} {pos' : Pos} {sc : Scope} (B : Ls C.X x i) (hE : ∃ q L f cdv, C.X.env = PyProof.Rows.envOfC q sc L f cdv) (hsw : ∀ q L f cdv, swapsWith e (some (.Name x pos')) pos.line (PyProof.Rows.envOfC q sc L f cdv) = pure false)
    (h : WE C e ρ M fun v M' => Clo M.length v M' fun v2 M2 => Nrm (ρ.set i (some v2)) M2 Φ.nx) : W1 C (.Assign [.Name x pos'] e pos) ρ M Φ := w1_sF B h (by
  obtain ⟨q, L, f, cdv, e1⟩ := hE
  rw [e1]; exact hsw q L f cdv)
/-- arguments: what an argument made is not changed any more -/
theorem wa_z {es : List Expr} {Ψ : List AV → Mm → Prop} (h : WE C e ρ M fun a M' => Clo M.length a M' fun a2 M2 => Nrm ρ M2 fun _ M3 => WA C es ρ M3 fun as M4 => Ψ (a2 :: as) M4)
    (he : starEach (e :: es) C.X.env = (false, eval e C.X.env) :: starEach es C.X.env := by rfl) : WA C (e :: es) ρ M Ψ :=
  wa_cons (we_clo (h.mono fun a M' c => c.mono fun a2 M2 z => z.out)) he
theorem lcT_i (h : ∀ acc : List D, acc.length < 10000000 → WGw C scope vs tg d (wipeR ρ vs) fun ρ2 => Nrm ρ2 (M ++ [.l acc]) fun ρ3 M3 => LcI C scope (M.length + 1) M3 elt ρ3 o ifs M3) : LcTurn C scope vs tg ifs elt ρ M d o := h
def AllB (C : Ctx) (scope : Scope) (Q : Cx → Prop) : Prop := ∀ X', BkX C scope X' → Q X'
theorem allB_i {Q : Cx → Prop} (h : ∀ X', BkX C scope X' → Q X') : AllB C scope Q := h
theorem lcT2_i {tg1 iter1 : Expr} {F : List D} (h : ∀ acc : List D, acc.length < 10000000 → WGw C scope vs tg d (wipeR ρ vs) fun ρ2 => Nrm ρ2 (M ++ [.l acc]) fun ρ3 M3 => AllB C scope fun X' => WY (C.bk X' (M.length + 1)) tg1 iter1 ρ3 M3 fun es M4 => M4 = M3 ∧
    ∃ g : D → Option D, (∀ (i : Nat) e, es[i]? = some e → LcTurn C scope vs1 tg1 ifs elt ρ3 M e (g e)) ∧ es.filterMap g = F) : LcTurn2 C scope vs vs1 tg tg1 iter1 ifs elt ρ M d F := h
theorem lcI_n (h : ∀ X', BkX C scope X' → WE (C.bk X' n) elt ρ M fun y M4 => Clo n y M4 fun y' M5 => M5 = M0 ∧ ∃ x, y' = .d x ∧ o = some x) : LcI C scope n M0 elt ρ o [] M := h
theorem lcI_c {c : Expr} {cs : List Expr} (h : ∀ X', BkX C scope X' → WT (C.bk X' n) c ρ M fun b M3 => (b = true → LcI C scope n M0 elt ρ o cs M3) ∧ (b = false → M3.take n = M0 ∧ o = none)) : LcI C scope n M0 elt ρ o (c :: cs) M := h
theorem lcE_i {M4 : Mm} {v : D} (h1 : M4 = M0) (h2 : o = some v) : M4 = M0 ∧ ∃ x, AV.d v = .d x ∧ o = some x := ⟨h1, v, rfl, h2⟩
theorem lcN_i {M4 : Mm} (h1 : M4 = M0) (h2 : o = none) : M4 = M0 ∧ o = none := ⟨h1, h2⟩
theorem bits2_i {i j : Int} {R : Int → Int → Prop} (h : R i j) : ∃ l n : Int, AV.d (.int i) = .d (.int l) ∧ AV.d (.int j) = .d (.int n) ∧ R l n := ⟨i, j, rfl, rfl, h⟩
theorem lst_i {M : Mm} {v : AV} {ds : List D} {R : List D → Prop} (h1 : lstOf M v = some ds) (h : R ds) : ∃ ds, lstOf M v = some ds ∧ R ds := ⟨ds, h1, h⟩
theorem frz_i {v : AV} {t : Bool} {ds : List D} {R : List D → Prop} (h1 : frz? v = some (t, ds)) (h : R ds) : ∃ ds, frz? v = some (t, ds) ∧ R ds := ⟨ds, h1, h⟩
theorem frz_j {v : AV} {t : Bool} {ds : List D} {R : List D → Prop} (h1 : frz? v = some (t, ds)) (h : R ds) : ∃ t ds, frz? v = some (t, ds) ∧ R ds := ⟨t, ds, h1, h⟩
theorem frz_2 {v v2 : AV} {t t2 : Bool} {ds es : List D} {R : List D → List D → Prop} (h1 : frz? v = some (t, ds)) (h2 : frz? v2 = some (t2, es)) (h : R ds es) : ∃ t1 t2 ds es, frz? v = some (t1, ds) ∧ frz? v2 = some (t2, es) ∧ R ds es := ⟨t, t2, ds, es, h1, h2, h⟩
theorem bk_ok {X' : Cx} (h : BkX C scope X') (ok : Cok C P w K mg base N gs Vi Li k) : Cok (C.bk X' n) P w K mg base N [] [] [] k :=
  bk_room h ok n (fun i y hi => by simp at hi) (fun i y hi => by simp at hi)
theorem bk_calm {X' : Cx} (h : BkX C scope X') (c : C.X.calm = true) : (C.bk X' n).X.calm = true := by
  obtain ⟨s, H, A, cl, fp, rfl⟩ := h
  exact c
theorem bk_gi {X' : Cx} {y : Str} {i : Int} (h : BkX C scope X') (B : Gi C.X y i) (hy : scope.names.lookup y = some .globalImplicit) : Gi X' y i := by
  have g := bk_gl h hy
  obtain ⟨s, H, A, cl, fp, rfl⟩ := h
  exact ⟨g, B.ex, B.n2⟩
theorem bk_gs {X' : Cx} {y : Str} {i : Str} (h : BkX C scope X') (B : Gs C.X y i) (hy : scope.names.lookup y = some .globalImplicit) : Gs X' y i := by
  have g := bk_gl h hy
  obtain ⟨s, H, A, cl, fp, rfl⟩ := h
  exact ⟨g, B.ex, B.n2⟩
end
section
variable {C : Ctx} {ρ : Rho} {M : Mm} {pos : Pos}
theorem wt_chain {a b c : Expr} {op op' : CmpOp} {Ψ : Bool → Mm → Prop} (h : WE C a ρ M fun x M1 => WE C b ρ M1 fun y M2 => WO C (compareOp op) x y M2 fun r M3 => isB r fun t => (t = false → Ψ false M3) ∧ (t = true → WE C c ρ M3 fun z M4 => WO C (compareOp op') y z M4 fun r M5 => isB r fun t => Ψ t M5))
    (hm : lastMarks [op, op'] [b, c] = false := by with_unfolding_all rfl) : WT C (.Compare a [op, op'] [b, c] pos) ρ M Ψ := by
  refine ⟨fun S α0 H0 α σ H Q0 bs g ev q0 => uT_of (pt_chain op_u op_u pe_u pe_u pe_u hm) ?_⟩
  show tChain _ _ _ _ _ σ H fun x H' => ∃ k, x = .bl k ∧ Q0 k H'
  have q : PostE C S α H (fun r M1 => isB r fun t => Ψ t M1) fun x H' => ∃ k, x = .bl k ∧ Q0 k H' := fun a M' β v H' p em g r => by
    obtain ⟨t, e, hh⟩ := isB_of p r
    exact ⟨t, e, q0 t M' β H' hh em g⟩
  refine h.run S α0 H0 α σ H _ bs g ev fun x M1 β1 v H1 p1 em1 g1 r1 => ?_
  refine p1.run S α0 H0 (α ++ β1) σ H1 _ bs (g.trans g1) (ev.up g1 em1) fun y M2 β2 u H2 p2 em2 g2 r2 => ?_
  refine p2.run S (α ++ β1 ++ β2) H2 _ v u em2 (r1.up g2) r2 fun r M3 β3 z H3 p3 em3 g3 r3 => ?_
  obtain ⟨t, e, hh⟩ := isB_of p3 r3
  refine ⟨t, e, ?_⟩
  have q3 := thnE (thnE (thnE q g1) g2) g3
  cases t with
  | false => exact stayE (a := .d (.bl false)) (v := .bl false) em3 q3 rfl (show isB (.d (.bl false)) _ from hh.1 rfl)
  | true =>
    refine (hh.2 rfl).run S α0 H0 (α ++ β1 ++ β2 ++ β3) σ H3 _ bs (((g.trans g1).trans g2).trans g3) ((((ev.up g1 em1).up g2 em2)).up g3 em3) fun z' M4 β4 w' H4 p4 em4 g4 r4 => ?_
    exact p4.run S _ H4 _ u w' em4 ((r2.up g3).up g4) r4 (thnE q3 g4)
end
theorem bk_fW {C : Ctx} {scope : Scope} {X' : Cx} {W : Wd} {y : Str} {n0 : Nat} {dsp : DSp} (h : BkX C scope X') (B : Fc C.X W y n0 dsp) (hy : scope.names.lookup y = some .globalImplicit) : Fc X' W y n0 dsp := by
  have g := bk_gl h hy
  obtain ⟨s, H, A, cl, fp, rfl⟩ := h
  exact ⟨g, B.ex, B.n2⟩
theorem bk_cW {C : Ctx} {scope : Scope} {X' : Cx} {W : Wd} {y : Str} {n0 : Nat} {dsp : DSp} (h : BkX C scope X') (B : Cc C.X W y n0 dsp) (hy : scope.names.lookup y = some .globalImplicit) : Cc X' W y n0 dsp := by
  have g := bk_gl h hy
  obtain ⟨s, H, A, cl, fp, rfl⟩ := h
  exact ⟨g, B.ex, B.n2⟩
theorem bls_true : ∀ {ds : List D}, (∀ d ∈ ds, d = D.bl true) → ds = (ds.map fun _ => true).map .bl
  | [], _ => rfl
  | d :: ds, h => by
    rw [List.map_cons, List.map_cons, ← bls_true fun d' hd => h d' (List.mem_cons_of_mem _ hd), h d List.mem_cons_self]
/-- all([..]), all of them true -/
theorem wc_all1 {C : Ctx} {M : Mm} {Ψ : AV → Mm → Prop} (hc : C.X.calm = true) (wk : C.W.K = C.X.K) {x : AV} {ds : List D} (hs : lstOf M x = some ds) (hd : ∀ d ∈ ds, d = .bl true) (h : Ψ (.d (.bl true)) M) : WC C (.builtin "all") [x] M Ψ := by
  refine wc_all hc wk (ns := ds.map fun _ => true) (by rw [hs]; exact congrArg some (bls_true hd)) ?_
  rw [show (ds.map fun _ => true).all id = true by simp]
  exact h
theorem fm_all {ds : List D} {g : D → Option D} {v : D} (h : ∀ d ∈ ds, g d = some v ∨ g d = none) : ∀ d ∈ ds.filterMap g, d = v := by
  intro d hd
  obtain ⟨a, ha, e⟩ := List.mem_filterMap.mp hd
  rcases h a ha with z | z
  · rw [z] at e; cases e; rfl
  · rw [z] at e; cases e
/-! ### names that only a block reads -/
structure Bx (X : Cx) (x : Str) (id : String) : Prop where
  mg : X.mg x = none
  bt : bootBuiltins x = some (.builtin id)
  n1 : x ≠ "__name__"
  n2 : (x == ("__debug__" : Str)) = false
structure Tx (X : Cx) (x : Str) (id : String) : Prop where
  mg : X.mg x = none
  bt : bootBuiltins x = some (.type id)
  n1 : x ≠ "__name__"
  n2 : (x == ("__debug__" : Str)) = false
structure Fx (X : Cx) (W : Wd) (x : Str) (n0 : Nat) (dsp : DSp) : Prop where
  ex : ∃ f fd ps k, FnOk X.prog X.w X.K X.mg X.base (L2.CX X.prog X.w) k f fd ps (spOf W n0 dsp) ∧ Room k X.A ∧ X.mg x = some (.ref f) ∧ PySem.W.keepIn X.K (.ref f) = true ∧ Binds X.K fd ps []
  n2 : (x == ("__debug__" : Str)) = false
structure Cxx (X : Cx) (W : Wd) (x : Str) (c : Nat) (dsp : DSp) : Prop where
  ex : ∃ f fd ps k, FnOk X.prog X.w X.K X.mg X.base (L2.CX X.prog X.w) k f fd ps (spOf W 1 dsp) ∧ Room (k + 1) X.A ∧ X.mg x = some (.ref (W.ca c)) ∧ Mk X.K (W.ca c) f ∧ Binds X.K fd ps []
  n2 : (x == ("__debug__" : Str)) = false
structure Ix (X : Cx) (x : Str) (n : Int) : Prop where
  ex : ∃ t, X.mg x = some (.int n t)
  n2 : (x == ("__debug__" : Str)) = false
structure Sx (X : Cx) (x : Str) (n : Str) : Prop where
  ex : ∃ t, X.mg x = some (.str n t)
  n2 : (x == ("__debug__" : Str)) = false
section
variable {P : Program} {w : World} {K : PySem.W.Frag} {mg : Str → Option Value} {base : Heap} {N gs ps : List Str} {Vi Li : List Nat} {k : Nat}
variable {C : Ctx} {x : Str} {scope : Scope} {X' : Cx}
theorem Cok.bx (ok : Cok C P w K mg base N gs Vi Li k) {id : String} (hm : mg x = none) (hv : bootBuiltins x = some (.builtin id)) (n1 : x ≠ "__name__") (n2 : (x == ("__debug__" : Str)) = false) : Bx C.X x id :=
  ⟨by rw [ok.mgE]; exact hm, hv, n1, n2⟩
theorem Cok.tx (ok : Cok C P w K mg base N gs Vi Li k) {id : String} (hm : mg x = none) (hv : bootBuiltins x = some (.type id)) (n1 : x ≠ "__name__") (n2 : (x == ("__debug__" : Str)) = false) : Tx C.X x id :=
  ⟨by rw [ok.mgE]; exact hm, hv, n1, n2⟩
theorem Cok.fx {n0 k' : Nat} {dsp : DSp} (ok : Cok C P w K mg base N gs Vi Li k) (F : Fk P w K mg base C.W x ps n0 dsp k') (hk : k' ≤ k) (n2 : (x == ("__debug__" : Str)) = false) : Fx C.X C.W x n0 dsp := by
  obtain ⟨f, fd, FO, hm, hkp, hb⟩ := F.ex
  refine ⟨⟨f, fd, ps, k', ?_, ok.room.mono hk, by rw [ok.mgE]; exact hm, by rw [ok.kE]; exact hkp, by rw [ok.kE]; exact hb⟩, n2⟩
  rw [ok.prog, ok.wE, ok.kE, ok.mgE, ok.baseE]; exact FO
theorem Cok.cx {c k' : Nat} {dsp : DSp} (ok : Cok C P w K mg base N gs Vi Li k) (F : Ck P w K mg base C.W x c ps dsp k') (hk : k' + 1 ≤ k) (n2 : (x == ("__debug__" : Str)) = false) : Cxx C.X C.W x c dsp := by
  obtain ⟨f, fd, FO, hm, mk, hb⟩ := F.ex
  refine ⟨⟨f, fd, ps, k', ?_, ok.room.mono hk, by rw [ok.mgE]; exact hm, by rw [ok.kE]; exact mk, by rw [ok.kE]; exact hb⟩, n2⟩
  rw [ok.prog, ok.wE, ok.kE, ok.mgE, ok.baseE]; exact FO
theorem Cok.ix (ok : Cok C P w K mg base N gs Vi Li k) {n : Int} (hm : ∃ t, mg x = some (.int n t)) (d1 : (x == ("__debug__" : Str)) = false) : Ix C.X x n := ⟨by rw [ok.mgE]; exact hm, d1⟩
theorem Cok.sx (ok : Cok C P w K mg base N gs Vi Li k) {n : Str} (hm : ∃ t, mg x = some (.str n t)) (d1 : (x == ("__debug__" : Str)) = false) : Sx C.X x n := ⟨by rw [ok.mgE]; exact hm, d1⟩
theorem bk_bx {id : String} (h : BkX C scope X') (B : Bx C.X x id) (hy : scope.names.lookup x = some .globalImplicit) : Bk X' x id := by
  have g := bk_gl h hy
  obtain ⟨s, H, A, cl, fp, rfl⟩ := h
  exact ⟨g, B.mg, B.bt, B.n1, B.n2⟩
theorem bk_tx {id : String} (h : BkX C scope X') (B : Tx C.X x id) (hy : scope.names.lookup x = some .globalImplicit) : Bt X' x id := by
  have g := bk_gl h hy
  obtain ⟨s, H, A, cl, fp, rfl⟩ := h
  exact ⟨g, B.mg, B.bt, B.n1, B.n2⟩
theorem bk_fx {W : Wd} {n0 : Nat} {dsp : DSp} (h : BkX C scope X') (B : Fx C.X W x n0 dsp) (hy : scope.names.lookup x = some .globalImplicit) : Fc X' W x n0 dsp := by
  have g := bk_gl h hy
  obtain ⟨s, H, A, cl, fp, rfl⟩ := h
  exact ⟨g, B.ex, B.n2⟩
theorem bk_cx {W : Wd} {n0 : Nat} {dsp : DSp} (h : BkX C scope X') (B : Cxx C.X W x n0 dsp) (hy : scope.names.lookup x = some .globalImplicit) : Cc X' W x n0 dsp := by
  have g := bk_gl h hy
  obtain ⟨s, H, A, cl, fp, rfl⟩ := h
  exact ⟨g, B.ex, B.n2⟩
theorem bk_ix {n : Int} (h : BkX C scope X') (B : Ix C.X x n) (hy : scope.names.lookup x = some .globalImplicit) : Gi X' x n := by
  have g := bk_gl h hy
  obtain ⟨s, H, A, cl, fp, rfl⟩ := h
  exact ⟨g, B.ex, B.n2⟩
theorem bk_sx {n : Str} (h : BkX C scope X') (B : Sx C.X x n) (hy : scope.names.lookup x = some .globalImplicit) : Gs X' x n := by
  have g := bk_gl h hy
  obtain ⟨s, H, A, cl, fp, rfl⟩ := h
  exact ⟨g, B.ex, B.n2⟩
theorem bk_bxx {id : String} (h : BkX C scope X') (B : Bx C.X x id) : Bx X' x id := by obtain ⟨s, H, A, cl, fp, rfl⟩ := h; exact ⟨B.mg, B.bt, B.n1, B.n2⟩
theorem bk_txx {id : String} (h : BkX C scope X') (B : Tx C.X x id) : Tx X' x id := by obtain ⟨s, H, A, cl, fp, rfl⟩ := h; exact ⟨B.mg, B.bt, B.n1, B.n2⟩
theorem bk_fxx {W : Wd} {n0 : Nat} {dsp : DSp} (h : BkX C scope X') (B : Fx C.X W x n0 dsp) : Fx X' W x n0 dsp := by obtain ⟨s, H, A, cl, fp, rfl⟩ := h; exact ⟨B.ex, B.n2⟩
theorem bk_cxx {W : Wd} {n0 : Nat} {dsp : DSp} (h : BkX C scope X') (B : Cxx C.X W x n0 dsp) : Cxx X' W x n0 dsp := by obtain ⟨s, H, A, cl, fp, rfl⟩ := h; exact ⟨B.ex, B.n2⟩
end
theorem rgL_mem {lo : Int} {n i : Nat} {d : D} (h : (rgL lo n)[i]? = some d) : i < n ∧ d = .int (lo + i) := by
  have hi := (List.getElem?_eq_some_iff.mp h).1
  rw [rgL_len] at hi
  rw [rgL_get hi] at h
  exact ⟨hi, (Option.some.inj h).symm⟩
end Dl

/-! DLM: == of data that is the same, of lists of ints, of texts. -/
namespace Dl
open PySem L2
mutual
/-- data of ints, texts, bools, None in lists and tuples, at most n deep -/
def dOk : Nat → D → Bool
  | _, .non => true
  | _, .bl _ => true
  | _, .int _ => true
  | _, .str x => PyData.strOk x
  | n, .tup ds => (match n with | 0 => false | m + 1 => dOks m ds)
  | n, .lst ds => (match n with | 0 => false | m + 1 => dOks m ds)
  | _, _ => false
def dOks : Nat → List D → Bool
  | _, [] => true
  | n, d :: ds => dOk n d && dOks n ds
end
mutual
theorem dOk_py : ∀ (n : Nat) (d : D), dOk n d = true → ∃ x, pyD d = some x ∧ x.canLay0 = true ∧ x.depth ≤ n
  | n, .non, h => ⟨_, rfl, by simp [PyData.canLay0], by simp [PyData.depth]⟩
  | n, .bl b, h => ⟨_, rfl, by simp [PyData.canLay0], by simp [PyData.depth]⟩
  | n, .int b, h => ⟨_, rfl, by simp [PyData.canLay0], by simp [PyData.depth]⟩
  | n, .str x, h => ⟨_, rfl, by simpa [PyData.canLay0, dOk] using h, by simp [PyData.depth]⟩
  | 0, .tup ds, h => by simp [dOk] at h
  | n + 1, .tup ds, h => by
    obtain ⟨xs, h1, h2, h3⟩ := dOks_py n ds (by simpa [dOk] using h)
    exact ⟨.tuple xs, by simp [pyD, h1], by simpa [PyData.canLay0] using h2, by simp [PyData.depth]; omega⟩
  | 0, .lst ds, h => by simp [dOk] at h
  | n + 1, .lst ds, h => by
    obtain ⟨xs, h1, h2, h3⟩ := dOks_py n ds (by simpa [dOk] using h)
    exact ⟨.list xs, by simp [pyD, h1], by simpa [PyData.canLay0] using h2, by simp [PyData.depth]; omega⟩
  | n, .ob _ _, h => by simp [dOk] at h
  | n, .dk _ _, h => by simp [dOk] at h
  | n, .fn _, h => by simp [dOk] at h
  | n, .ty _, h => by simp [dOk] at h
theorem dOks_py : ∀ (n : Nat) (ds : List D), dOks n ds = true → ∃ xs, pyDs ds = some xs ∧ PyData.canLayAll0 xs = true ∧ PyData.depthAll xs ≤ n
  | n, [], h => ⟨[], rfl, by simp [PyData.canLayAll0], by simp [PyData.depthAll]⟩
  | n, d :: ds, h => by
    have h' : dOk n d = true ∧ dOks n ds = true := by simpa [dOks] using h
    obtain ⟨x, a1, a2, a3⟩ := dOk_py n d h'.1
    obtain ⟨xs, b1, b2, b3⟩ := dOks_py n ds h'.2
    exact ⟨x :: xs, by simp [pyDs, a1, b1], by simp [PyData.canLayAll0, a2, b2], by simp [PyData.depthAll]; omega⟩
end
/-- a value or a list of the store, as data -/
def datA (M : Mm) : AV → Option D
  | .d x => some x
  | .m k => match M[k]? with
    | some (.l ds) => some (.lst ds)
    | _ => none
theorem pyA_dat {M : Mm} {a : AV} {d : D} {x : PyData} (h : datA M a = some d) (e : pyD d = some x) : pyA M a = some x := by
  cases a with
  | d y => cases h; exact e
  | m k =>
    simp only [datA] at h
    simp only [pyA]
    cases q : M[k]? with
    | none => rw [q] at h; cases h
    | some m =>
      rw [q] at h
      cases m with
      | l ds =>
        cases h
        simp only [pyD] at e
        cases q2 : pyDs ds with
        | none => rw [q2] at e; cases e
        | some xs => rw [q2] at e; cases e; simp [q2]
      | _ => cases h
section
variable {P : Program} {w : World} {K : PySem.W.Frag} {mg : Str → Option Value} {base : Heap} {N gs : List Str} {Vi Li : List Nat} {k : Nat}
variable {C : Ctx} {M : Mm} {Ψ : AV → Mm → Prop}
theorem Cok.u64 (ok : Cok C P w K mg base N gs Vi Li k) : C.X.A.units + 64 < cLine := ok.room.units
theorem shp {n : Nat} (hn : n ≤ 60) {x : PyData} (h1 : x.canLay0 = true) (h2 : x.depth ≤ n) : SeqAt.shaped x = true := by
  unfold SeqAt.shaped
  rw [h1, decide_eq_true (by omega : x.depth ≤ 64)]; rfl
/-- a == b, both the same data -/
theorem wo_eqX (ok : Cok C P w K mg base N gs Vi Li k) {a b : AV} {d : D} (ha : datA M a = some d) (hb : datA M b = some d) (hd : dOk 60 d = true) (h : Ψ (.d (.bl true)) M) : WO C (compareOp .Eq) a b M Ψ := by
  obtain ⟨x, e1, e2, e3⟩ := dOk_py 60 d hd
  refine wo_eqD ok.wk ok.u64 (pyA_dat ha e1) (pyA_dat hb e1) (shp (Nat.le_refl _) e2 e3) (shp (Nat.le_refl _) e2 e3) ?_
  rw [SeqAt.eqv_refl x e2]; exact h
theorem wo_neX (ok : Cok C P w K mg base N gs Vi Li k) {a b : AV} {d : D} (ha : datA M a = some d) (hb : datA M b = some d) (hd : dOk 60 d = true) (h : Ψ (.d (.bl false)) M) : WO C (compareOp .NotEq) a b M Ψ := by
  obtain ⟨x, e1, e2, e3⟩ := dOk_py 60 d hd
  refine wo_neD ok.wk ok.u64 (pyA_dat ha e1) (pyA_dat hb e1) (shp (Nat.le_refl _) e2 e3) (shp (Nat.le_refl _) e2 e3) ?_
  rw [SeqAt.eqv_refl x e2]; exact h
end
section
variable {C : Ctx} {a : Expr} {ρ : Rho} {M : Mm} {Ψ : AV → Mm → Prop} {pos p p2 pos2 : Pos}
theorem we_listRb (hc : C.X.calm = true) (B1 : Bt C.X "list" "list") (B2 : Bt C.X "range" "range")
    (h : WE C a ρ M fun v M1 => ∃ n : Int, v = .d (.int n) ∧ RgB (-1000000 ≤ n ∧ n ≤ 1000000) (Ψ (.m M1.length) (M1 ++ [.l (rgD n)])))
    (na : starEach [.Call (.Name "range" p2) [a] [] pos2] C.X.env = (false, eval (.Call (.Name "range" p2) [a] [] pos2) C.X.env) :: starEach [] C.X.env := by rfl)
    (nb : starEach [a] C.X.env = (false, eval a C.X.env) :: starEach [] C.X.env := by rfl) :
    WE C (.Call (.Name "list" p) [.Call (.Name "range" p2) [a] [] pos2] [] pos) ρ M Ψ := we_listR hc B1 B2 h na nb
end
/-! ### a method of a tuple -/
def Dfr (K : PySem.W.Frag) (H : Hp) (x : V) : Prop := ∃ p : Addr, x = .ref p ∧ ((∃ (o : Obj) (vs : List V), H p = some (.frz o (.tup vs)) ∧ o.dict = none) ∨ ∃ o : Obj, K.lookup p = some o ∧ o.cls = .type "tuple" ∧ o.dict = none)
theorem dfr_is {X : Cx} {pins : List (Addr × Obj)} {σ : L2.St} {H : Hp} {s : Shared} {x : V} {v : Value} (I : Inv X pins σ H s) (r : RelV x v) (d : Dfr X.K H x) : s.TypeIs v "tuple" ∧ ∀ a, v = .ref a → ∃ ob, s.heap.get? a = some ob ∧ ob.dict = none := by
  obtain ⟨p, rfl, d⟩ := d
  cases (show v = Value.ref p from r)
  rcases d with ⟨o, vs, hp, hd⟩ | ⟨o, hk, hc, hd⟩
  · obtain ⟨g, _, its, _, o2, g2, hc, _⟩ := (show ObjOk X.prog X.w H s.heap p (.frz o (.tup vs)) from I.hok p _ hp)
    rw [g] at g2; cases g2
    exact ⟨⟨o, g, hc⟩, fun a e => by cases e; exact ⟨o, g, hd⟩⟩
  · exact ⟨⟨o, I.kIn p o hk, hc⟩, fun a e => by cases e; exact ⟨o, I.kIn p o hk, hd⟩⟩
theorem pe_bmZ {X : Cx} {o e : Expr} {es : List Expr} {to : TE} {t : TA} {name : Str} {apos cpos : Pos} {id : String} {r : V → List V → Hp → VK → Prop} (slot : Slot "tuple" name id) (hty : typeOf (.builtin id) = pure (.type "method_descriptor")) (hm : MtR X id r) (ho : PE X o to) (ha : PA X (e :: es) t)
    (hb : attributeBase o name X.env (eval o X.env) = eval o X.env) (hw : ((backTo cpos (starEach (e :: es) X.env)).all (fun x => !x.1) && (backToKw cpos (keywordEach [] X.env)).all (fun x => x.1.isSome) && decide ((e :: es).length + ([] : List Keyword).length + (if ([] : List Keyword).isEmpty then 0 else 1) < 30)) = true)
    (hl : (apos.endLine == cpos.line) = true) (hs : starEach (e :: es) X.env = (false, eval e X.env) :: starEach es X.env) (hpl : (backTo cpos (starEach es X.env)).any (·.1) = false) :
    PE X (.Call (.Attribute o name apos) (e :: es) [] cpos) fun σ H Q => to σ H fun x H1 => Dfr X.K H1 x ∧ t σ H1 fun xs H2 => r x xs H2 Q := by
  refine ⟨fun pins s σ H Q I h => wpAny_Call_method_late hb hw hl rfl (thn (ho.run pins s σ H _ I h) fun v s1 ⟨x, H1, I1, r1, d, q1⟩ => ?_)⟩
  obtain ⟨k1, k2⟩ := dfr_is I1 r1 d
  refine ⟨"tuple", id, PySem.F.plainAttrs_tuple, slot, hty, k1, k2, ?_⟩
  have go := ha.run cpos pins s1 σ H1 _ I1 q1
  rw [hs] at go ⊢
  exact Calls.callWith_builtin (by show (false || (backTo cpos (starEach es X.env)).any (·.1)) = false; rw [hpl] <;> rfl) (Calls.evalArgs_plain (thn go fun us s2 ⟨vs, H2, I2, r2, q2⟩ => hm pins s2 σ H2 x vs v us Q I2 r1 r2 q2))
theorem tup_dfr {C : Ctx} (wk : C.W.K = C.X.K) {S : Addr → Prop} {α : Als} {H : Hp} {ds : List D} {v : V} (r : RepA C.W S α H (.d (.tup ds)) v) : Dfr C.X.K H v := by
  obtain ⟨a, vs, e, t, rr⟩ := (show ∃ a vs, v = .ref a ∧ TSq C.W (Av S α) H a vs ∧ Reps C.W (Av S α) H ds vs from r)
  rcases t with ⟨_, o, h, hd⟩ | ⟨_, o, h, hc, hd⟩
  · exact ⟨a, e, .inl ⟨o, vs, h, hd⟩⟩
  · exact ⟨a, e, .inr ⟨o, wk ▸ h, hc, hd⟩⟩
section
variable {C : Ctx} {o e : Expr} {es : List Expr} {ρ : Rho} {M : Mm} {Ψ : AV → Mm → Prop}
theorem we_bmt (wk : C.W.K = C.X.K) {id : String} {name : Str} {apos cpos : Pos} (slot : Slot "tuple" name id) (hty : typeOf (.builtin id) = pure (.type "method_descriptor"))
    (h : WE C o ρ M fun x M1 => ∃ ds, x = .d (.tup ds) ∧ WA C (e :: es) ρ M1 fun as M2 => WM C id (.d (.tup ds)) as M2 Ψ)
    (hb : attributeBase o name C.X.env (eval o C.X.env) = eval o C.X.env := by rfl) (hw : ((backTo cpos (starEach (e :: es) C.X.env)).all (fun x => !x.1) && (backToKw cpos (keywordEach [] C.X.env)).all (fun x => x.1.isSome) && decide ((e :: es).length + ([] : List Keyword).length + (if ([] : List Keyword).isEmpty then 0 else 1) < 30)) = true := by rfl)
    (hl : (apos.endLine == cpos.line) = true := by rfl) (hs : starEach (e :: es) C.X.env = (false, eval e C.X.env) :: starEach es C.X.env := by rfl) (hpl : (backTo cpos (starEach es C.X.env)).any (·.1) = false := by rfl) :
    WE C (.Call (.Attribute o name apos) (e :: es) [] cpos) ρ M Ψ := by
  refine ⟨fun S α0 H0 α σ H Q bs g ev q => uE_of (pe_bmZ slot hty mt_u pe_u pa_u hb hw hl hs hpl) ?_⟩
  refine h.run S α0 H0 α σ H _ bs g ev fun x M1 β v H1 p1 em1 g1 r1 => ?_
  obtain ⟨ds, ex, p1⟩ := p1
  subst ex
  refine ⟨tup_dfr wk r1, ?_⟩
  refine p1.run S α0 H0 (α ++ β) σ H1 _ bs (g.trans g1) (ev.up g1 em1) fun as M2 β2 vs H2 p2 em2 g2 r2 => ?_
  exact p2.run S _ H2 Q v vs em2 (r1.up g2) r2 (thnE (thnE q g1) g2)
theorem tup_i {ds : List D} {R : List D → Prop} (h : R ds) : ∃ es, AV.d (.tup ds) = .d (.tup es) ∧ R es := ⟨ds, rfl, h⟩
end
theorem dOks_map {α : Type} {f : α → D} {n : Nat} : ∀ {xs : List α}, (∀ x ∈ xs, dOk n (f x) = true) → dOks n (xs.map f) = true
  | [], _ => by simp [dOks]
  | x :: xs, h => by
    rw [List.map_cons]
    simp only [dOks, h x List.mem_cons_self, dOks_map fun y hy => h y (List.mem_cons_of_mem _ hy), Bool.and_self]
theorem dOk_int {n : Nat} {i : Int} : dOk n (.int i) = true := by simp [dOk]
theorem dOk_tup {n : Nat} {ds : List D} (h : dOks n ds = true) : dOk (n + 1) (.tup ds) = true := by simp [dOk, h]
theorem dOk_lst {n : Nat} {ds : List D} (h : dOks n ds = true) : dOk (n + 1) (.lst ds) = true := by simp [dOk, h]
end Dl

/-! DLN: x + y, x - y, x * y by the class's own methods; methods of instances. -/
namespace DlN
open PySem PySem.W
section
variable {prog : Program} {w : World} {A : Around} {E : Value → Shared → Prop} {s : Shared} {K : Frag} {x y C L f : Addr} {h₀ : Heap} {m : Str → Option Value} {ox oy : Obj} {od od2 : Option Obj} {name : Str}
/-- the class stands first in its own order -/
def hdOwn (K : Frag) (C : Addr) : Bool := match clsIn K C with
  | some cd => (match cd.mro with | .ref D :: _ => D == C | _ => false)
  | none => false
theorem hd_of (hd : hdOwn K C = true) : ∃ cd r, clsIn K C = some cd ∧ cd.mro = .ref C :: r := by
  unfold hdOwn at hd
  split at hd
  · rename_i cd e
    split at hd
    · rename_i D r e2
      have eD : D = C := beq_iff_eq.mp hd
      subst eD
      exact ⟨cd, r, e, e2⟩
    · cases hd
  · cases hd
theorem fills_own {M : Model} {nm : String} {Q : Bool → Shared → Prop} (X : K.In s.heap) (hd : hdOwn K C = true) (hs : findIn K (.ref C) (PySem.dunder nm) = some (some (.ref f))) (h : Q true s) : wpAny M A (fillsNumberSlot (.ref C) nm) Q E s := by
  obtain ⟨cd, r, e, e2⟩ := hd_of hd
  unfold fillsNumberSlot
  refine wpAny_bind (((looks_clsIn (M := M) X e).andThen (f := fun cd => pure cd.mro) .now).here ?_)
  rw [e2]
  show wpAny M A (List.anyM _ (Value.ref C :: r)) Q E s
  unfold List.anyM
  refine wpAny_bind ?_
  show wpAny M A (List.anyM _ [PySem.dunder nm, dunderR nm]) _ E s
  unfold List.anyM
  refine wpAny_bind ?_
  refine wpAny_bind ((looks_findIn X hs).here ?_)
  show wpAny M A (if (!ownNameWrapper (.ref f) (PySem.dunder nm)) = true then _ else _) _ E s
  rw [if_pos (show (!ownNameWrapper (Value.ref f) (PySem.dunder nm)) = true from rfl)]
  exact wpAny_pure (wpAny_pure (wpAny_pure h))
theorem special_own {M : Model} {args : List Value} {Q : Option Value → Shared → Prop} (X : K.In s.heap) (I : InstAt s.heap x ox C od) (hs : findIn K (.ref C) name = some (some (.ref f))) (hf : isFn K (.ref f) = true)
    (h : wpAny M A (call (.ref f) (.ref x :: args)) (fun v => Q (some v)) E s) : wpAny M A (callSpecial? (.ref x) name args) Q E s := by
  unfold callSpecial?
  refine wpAny_bind (wpAny_bind (I.type.here ((looks_findIn X hs).here ?_)))
  refine wpAny_holding (wpAny_bind ((bind_fn X _ (beq_iff_eq.mp hf)).here ?_))
  exact wpAny_bind (wpAny_mono h (fun v s' z => wpAny_pure z) fun _ _ z => z)
def BinBack (Q : Value → Shared → Prop) (v : Value) (s' : Shared) : Prop := match v with
  | .notImplemented => False
  | v => Q v s'
/-- x op y by the class's own method, both of the class -/
theorem bin_own {op : Operator} {Q : Value → Shared → Prop} (X : K.In s.heap) (I : InstAt s.heap x ox C od) (J : InstAt s.heap y oy C od2) (hd : hdOwn K C = true) (hs : findIn K (.ref C) (PySem.dunder op.info.2) = some (some (.ref f))) (hf : isFn K (.ref f) = true)
    (h : wpAny (model prog w) A (call (.ref f) [.ref x, .ref y]) (BinBack Q) E s) : wpAny (model prog w) A (binaryOp op (.ref x) (.ref y)) Q E s := by
  have one : wpAny (model prog w) A (tryMethod (.ref x) (PySem.dunder op.info.2) (.ref y)) (fun r s' => ∃ v, r = some v ∧ Q v s') E s := by
    unfold tryMethod
    refine wpAny_bind (special_own X I hs hf (wpAny_mono h (fun v s' hv => ?_) fun _ _ e => e))
    cases v <;> first | exact hv.elim | exact wpAny_pure ⟨_, rfl, hv⟩
  unfold binaryOp
  refine wpAny_holding ?_
  show wpAny (model prog w) A (binaryOp1 op.info.2 (.ref x) (.ref y) >>= _) Q E s
  refine wpAny_bind ?_
  unfold binaryOp1
  refine wpAny_bind (I.type.here (wpAny_bind (J.type.here ?_)))
  refine wpAny_bind (fills_own X hd hs ?_)
  rw [if_pos (beq_self_eq_true _)]
  refine wpAny_bind (wpAny_pure ?_)
  show wpAny (model prog w) A (pure false >>= _) _ E s
  refine wpAny_bind (wpAny_pure ?_)
  show wpAny (model prog w) A (tryMethod (.ref x) (PySem.dunder op.info.2) (.ref y) >>= _) _ E s
  refine wpAny_bind (wpAny_mono one (fun r s' hr => ?_) fun _ _ e => e)
  obtain ⟨v, er, hq⟩ := hr
  subst er
  exact wpAny_pure (wpAny_pure hq)
end
end DlN
namespace Dl
open PySem L2
/-! ### x op y -/
theorem relV_back {Q : Value → Shared → Prop} {v : V} {u : Value} {s : Shared} (r : RelV v u) (h : Q u s) : DlN.BinBack Q u s := by
  cases u with
  | notImplemented => cases v <;> first | (obtain ⟨t, e⟩ := r; cases e) | cases (show Value.notImplemented = _ from r)
  | _ => exact h
theorem op_binO {X : Cx} {op : Operator} {n : Nat} {f : Addr} {Ca : Addr} {fd : FuncData} {ps : List Str} {sp : Sp} (F : FnOk X.prog X.w X.K X.mg X.base (L2.CX X.prog X.w) n f fd ps sp) (hr : Room n X.A)
    (hd : DlN.hdOwn X.K Ca = true) (hs : PySem.W.findIn X.K (.ref Ca) (PySem.dunder op.info.2) = some (some (.ref f))) (hf : PySem.W.isFn X.K (.ref f) = true) (hb : Binds X.K fd ps []) :
    OpR X (binaryOp op) (fun x y H Q => ∃ a b dx dy fs gs, x = .ref a ∧ y = .ref b ∧ H a = some (.ins Ca dx fs) ∧ H b = some (.ins Ca dy gs) ∧ sp [.ref a, .ref b] H Q fun _ _ _ => False) := by
  intro pins s σ H x y u v Q I rx ry d
  obtain ⟨a, b, dx, dy, fs, gs, rfl, rfl, ha, hb', hsp⟩ := d
  cases rx
  cases ry
  obtain ⟨mA, J, _⟩ := ins_get I.hok ha
  obtain ⟨mB, J', _⟩ := ins_get I.hok hb'
  obtain ⟨od, J, _⟩ := J.look
  obtain ⟨od', J', _⟩ := J'.look
  refine DlN.bin_own I.kIn J J' hd hs hf ?_
  have hl := F.len _ _ _ _ hsp
  have r2 : Vals [V.ref a, V.ref b] [Value.ref a, Value.ref b] := .cons rfl (.cons rfl .nil)
  refine wpAny_call (codeAny_mono (F.run X.A X.stack s H ⟨[.ref a, .ref b], []⟩ [.ref a, .ref b] [.ref a, .ref b] _ _ hr I.env0 (by
    have := hb s [.ref a, .ref b] I.kIn (by simpa using hl)
    simpa using this) r2 hsp) fun r s' hq => ?_)
  cases r with
  | error e =>
    obtain ⟨_, _, _, _, _, _, _, _, _, _, _, _, z⟩ := hq
    exact z.elim
  | ok fl =>
    cases fl with
    | ret w =>
      obtain ⟨z, H', I', rz, q⟩ := I.after hq
      exact relV_back (Q := EP X pins σ Q) rz ⟨z, H', I', rz, q⟩
    | next => exact False.elim hq
    | brk => exact False.elim hq
    | cont => exact False.elim hq
/-- the class's method for the operation -/
structure Opk (P : Program) (w : World) (K : PySem.W.Frag) (mg : Str → Option Value) (base : Heap) (W : Wd) (c : Nat) (nm : Str) (ps : List Str) (dsp : DSp) (k : Nat) : Prop where
  ex : ∃ f fd, FnOk P w K mg base (L2.CX P w) k f fd ps (spOf W 0 dsp) ∧ PySem.W.findIn K (.ref (W.ca c)) nm = some (some (.ref f)) ∧ PySem.W.isFn K (.ref f) = true ∧ Binds K fd ps []
  hd : DlN.hdOwn K (W.ca c) = true
def callB (dsp : DSp) (as : List AV) (M : Mm) (Ψ : AV → Mm → Prop) : Prop := dsp as [] (fun a M' => Ψ (sh0 M.length a) (M ++ M')) (fun _ _ _ => False)
section
variable {P : Program} {w : World} {K : PySem.W.Frag} {mg : Str → Option Value} {base : Heap} {N gs ps : List Str} {Vi Li : List Nat} {k : Nat}
variable {C : Ctx} {o e : Expr} {es : List Expr} {ρ : Rho} {M : Mm} {Ψ : AV → Mm → Prop}
theorem wo_binO {op : Operator} {c k' : Nat} {dsp : DSp} {ds es : List D} (ok : Cok C P w K mg base N gs Vi Li k) (F : Opk P w K mg base C.W c (PySem.dunder op.info.2) ps dsp k') (hk : Nat.ble k' k = true)
    (h : callB dsp [.d (.ob c ds), .d (.ob c es)] M Ψ) : WO C (binaryOp op) (.d (.ob c ds)) (.d (.ob c es)) M Ψ := by
  obtain ⟨f, fd, FO, hs, hf, hb⟩ := F.ex
  have hk := Nat.le_of_ble_eq_true hk
  refine ⟨fun S α H Q v u em r1 r2 q => ?_⟩
  have FO' : FnOk C.X.prog C.X.w C.X.K C.X.mg C.X.base (L2.CX C.X.prog C.X.w) k' f fd ps (spOf C.W 0 dsp) := by rw [ok.prog, ok.wE, ok.kE, ok.mgE, ok.baseE]; exact FO
  obtain ⟨a, dx, vs, e1, n1, t1, l1, rr1⟩ := (show ∃ a dx vs, v = .ref a ∧ ¬ Av S α a ∧ H a = some (.ins (C.W.ca c) dx ((C.W.cf c).zip vs)) ∧ vs.length = (C.W.cf c).length ∧ Reps C.W (Av S α) H ds vs from r1)
  obtain ⟨b, dy, us, e2, n2, t2, l2, rr2⟩ := (show ∃ a dx vs, u = .ref a ∧ ¬ Av S α a ∧ H a = some (.ins (C.W.ca c) dx ((C.W.cf c).zip vs)) ∧ vs.length = (C.W.cf c).length ∧ Reps C.W (Av S α) H es vs from r2)
  refine uO_of (op_binO FO' (ok.room.mono hk) (by rw [ok.kE]; exact F.hd) (by rw [ok.kE]; exact hs) (by rw [ok.kE]; exact hf) (by rw [ok.kE]; exact hb)) ⟨a, b, dx, dy, _, _, e1, e2, t1, t2, ?_⟩
  have ra : RepsA C.W S α H [.d (.ob c ds), .d (.ob c es)] [.ref a, .ref b] := ⟨_, _, rfl, (by rw [e1] at r1; exact r1), _, _, rfl, (by rw [e2] at r2; exact r2), rfl⟩
  refine ⟨Av S α, [], [], _, _, _, ⟨.nil, by simp, em.trA⟩, rfl, repsA0 (ds := [.ob c ds, .ob c es]) rfl ra, h, fun x M' β v' H' pp em' g' r' => ?_, fun _ _ _ _ _ _ _ z _ _ _ => z.elim⟩
  obtain ⟨h1, h2, h3⟩ := back0 em em' g' r'
  exact q _ _ β v' H' pp h1 h2 h3
/-! ### o.m(..) -/
theorem pe_methE {X : Cx} {CX : CXT} {k : Nat} {Ca f : Addr} {fd : FuncData} {ps : List Str} {sp : Sp} {E : L2.St → XK} {o e : Expr} {es : List Expr} {ta : TE} {t : TA} {m : Str} {apos pos : Pos} {pl : Sem Bool} (he : PE X o ta) (c : Cls X.K Ca) (hm : Meth X.K Ca m f) (F : FnOk X.prog X.w X.K X.mg X.base CX k f fd ps sp) (hr : Room k X.A) (hb : Binds X.K fd ps []) (hx : ∀ σ, PassesAt CX X σ (E σ)) (ha : PA X (e :: es) t)
    (h1 : starEach (e :: es) X.env = (false, eval e X.env) :: starEach es X.env) (h2 : (backTo pos (starEach es X.env)).any (·.1) = false)
    (h3 : eval (.Call (.Attribute o m apos) (e :: es) [] pos) X.env = (eval o X.env >>= fun ov => standAt apos.atName >>= fun _ => holding [ov] (getMethod ov m pl) >>= fun p => callWith pos p.1 p.2 (backTo pos (starEach (e :: es) X.env)) (backToKw pos (keywordEach [] X.env)))) :
    PE X (.Call (.Attribute o m apos) (e :: es) [] pos) fun σ H Q => ta σ H fun x H1 => ∃ a dx fs, x = .ref a ∧ H1 a = some (.ins Ca dx fs) ∧ fs.lookup m = none ∧ t σ H1 fun vs H2 => sp (x :: vs) H2 Q (E σ) := by
  refine ⟨fun pins s σ H Q I h => ?_⟩
  refine PySem.W.methodCall_KW (pl := pl) (thn (he.run pins s σ H _ I h) fun u s1 ⟨x, H1, I1, rx, a, dx, fs, ex, ea, l, q⟩ => ?_) h3
  subst ex
  obtain rfl : u = Value.ref a := rx
  refine getmeth_ok I1 ea c hm l ?_
  refine PySem.W.callWith_K (first := [.ref a]) (h₀ := X.base) I.ok.mod.kin hm.kp (thn (ha.run pos pins s1 σ H1 _ I1 q) fun us s2 ⟨vs, H2, I2, r, q2⟩ => ⟨I2.kIn, ?_⟩) h1 h2
  exact run_fnS (us := .ref a :: us) (vs := .ref a :: vs) F hr hb (hx σ) I2 (.cons rfl r) q2
end
end Dl

/-! DLO: methods of instances. -/
namespace Dl
open PySem L2
theorem pe_methE0 {X : Cx} {CX : CXT} {k : Nat} {Ca f : Addr} {fd : FuncData} {ps : List Str} {sp : Sp} {E : L2.St → XK} {o : Expr} {ta : TE} {m : Str} {apos pos : Pos} {pl : Sem Bool} (he : PE X o ta) (c : Cls X.K Ca) (hm : Meth X.K Ca m f) (F : FnOk X.prog X.w X.K X.mg X.base CX k f fd ps sp) (hr : Room k X.A) (hb : Binds X.K fd ps []) (hx : ∀ σ, PassesAt CX X σ (E σ))
    (h3 : eval (.Call (.Attribute o m apos) [] [] pos) X.env = (eval o X.env >>= fun ov => standAt apos.atName >>= fun _ => holding [ov] (getMethod ov m pl) >>= fun p => callWith pos p.1 p.2 (backTo pos (starEach [] X.env)) (backToKw pos (keywordEach [] X.env)))) :
    PE X (.Call (.Attribute o m apos) [] [] pos) fun σ H Q => ta σ H fun x H1 => ∃ a dx fs, x = .ref a ∧ H1 a = some (.ins Ca dx fs) ∧ fs.lookup m = none ∧ sp [x] H1 Q (E σ) := by
  refine ⟨fun pins s σ H Q I h => ?_⟩
  refine PySem.W.methodCall_KW (pl := pl) (thn (he.run pins s σ H _ I h) fun u s1 ⟨x, H1, I1, rx, a, dx, fs, ex, ea, l, q⟩ => ?_) h3
  subst ex
  obtain rfl : u = Value.ref a := rx
  refine getmeth_ok I1 ea c hm l ?_
  exact PySem.W.callWith_K0 (first := [.ref a]) I1.kIn hm.kp (run_fnS (us := [.ref a]) (vs := [.ref a]) F hr hb (hx σ) I1 (.cons rfl .nil) q)
/-- a method m of the text's class c -/
structure Mek (P : Program) (w : World) (K : PySem.W.Frag) (mg : Str → Option Value) (base : Heap) (W : Wd) (c : Nat) (m : Str) (ps : List Str) (dsp : DSp) (k : Nat) : Prop where
  ex : ∃ f fd, FnOk P w K mg base (L2.CX P w) k f fd ps (spOf W 0 dsp) ∧ Meth K (W.ca c) m f ∧ Binds K fd ps []
structure Mc (X : Cx) (W : Wd) (c : Nat) (m : Str) (dsp : DSp) : Prop where
  ex : ∃ f fd ps k, FnOk X.prog X.w X.K X.mg X.base (L2.CX X.prog X.w) k f fd ps (spOf W 0 dsp) ∧ Room k X.A ∧ Meth X.K (W.ca c) m f ∧ Binds X.K fd ps []
  cl : Cls X.K (W.ca c)
  nf : m ∉ W.cf c
theorem look_no {m : Str} : ∀ {fs : List Str} {vs : List V}, m ∉ fs → (fs.zip vs).lookup m = none
  | [], _, _ => by simp
  | _ :: _, [], _ => by simp
  | g :: fs, v :: vs, h => by
    have h1 : (m == g) = false := by
      have : m ≠ g := fun e => h (by simp [e])
      simpa using this
    rw [List.zip_cons_cons, List.lookup_cons, h1]
    exact look_no fun z => h (List.mem_cons_of_mem _ z)
section
variable {P : Program} {w : World} {K : PySem.W.Frag} {mg : Str → Option Value} {base : Heap} {N gs ps : List Str} {Vi Li : List Nat} {k : Nat}
variable {C : Ctx} {o e : Expr} {es : List Expr} {ρ : Rho} {M : Mm} {Ψ : AV → Mm → Prop} {scope : Scope} {X' : Cx}
theorem Cok.mc {c k' : Nat} {m : Str} {dsp : DSp} (ok : Cok C P w K mg base N gs Vi Li k) (F : Mek P w K mg base C.W c m ps dsp k') (hk : k' ≤ k) (cl : ClsF K C.W c) (nf : m ∉ C.W.cf c) : Mc C.X C.W c m dsp := by
  obtain ⟨f, fd, FO, hm, hb⟩ := F.ex
  refine ⟨⟨f, fd, ps, k', ?_, ok.room.mono hk, by rw [ok.kE]; exact hm, by rw [ok.kE]; exact hb⟩, by rw [ok.kE]; exact cl.cls, nf⟩
  rw [ok.prog, ok.wE, ok.kE, ok.mgE, ok.baseE]; exact FO
theorem bk_mc {W : Wd} {c : Nat} {m : Str} {dsp : DSp} (h : BkX C scope X') (B : Mc C.X W c m dsp) : Mc X' W c m dsp := by
  obtain ⟨s, H, A, cl, fp, rfl⟩ := h
  exact ⟨B.ex, B.cl, B.nf⟩
theorem ob_lk {S : Addr → Prop} {α : Als} {H : Hp} {c : Nat} {m : Str} {ds : List D} {v : V} (nf : m ∉ C.W.cf c) (r : RepA C.W S α H (.d (.ob c ds)) v) : ∃ a dx fs, v = .ref a ∧ H a = some (.ins (C.W.ca c) dx fs) ∧ fs.lookup m = none := by
  obtain ⟨a, dx, vs, e, n, t, l, rr⟩ := (show ∃ a dx vs, v = .ref a ∧ ¬ Av S α a ∧ H a = some (.ins (C.W.ca c) dx ((C.W.cf c).zip vs)) ∧ vs.length = (C.W.cf c).length ∧ Reps C.W (Av S α) H ds vs from r)
  exact ⟨a, dx, _, e, t, look_no nf⟩
theorem we_meth0 {c : Nat} {m : Str} {dsp : DSp} {apos pos : Pos} {pl : Sem Bool} (B : Mc C.X C.W c m dsp) (h : WE C o ρ M fun x M1 => ∃ ds, x = .d (.ob c ds) ∧ call0 C ρ dsp [.d (.ob c ds)] M1 Ψ)
    (h3 : eval (.Call (.Attribute o m apos) [] [] pos) C.X.env = (eval o C.X.env >>= fun ov => standAt apos.atName >>= fun _ => holding [ov] (getMethod ov m pl) >>= fun p => callWith pos p.1 p.2 (backTo pos (starEach [] C.X.env)) (backToKw pos (keywordEach [] C.X.env))) := by rfl) :
    WE C (.Call (.Attribute o m apos) [] [] pos) ρ M Ψ := by
  obtain ⟨f, fd, ps, k, FO, hr, hm, hb⟩ := B.ex
  refine ⟨fun S α0 H0 α σ H Q bs g ev q => ?_⟩
  obtain ⟨Wx, tk, ht⟩ := bs.tk
  refine uE_of (pe_methE0 (pl := pl) pe_u B.cl hm FO hr hb (passAt tk) h3) ?_
  refine h.run S α0 H0 α σ H _ bs g ev fun x M1 β v H1 p1 em1 g1 r1 => ?_
  obtain ⟨ds, ex, hc⟩ := p1
  subst ex
  obtain ⟨a, dx, fs, e1, e2, e3⟩ := ob_lk B.nf r1
  refine ⟨a, dx, fs, e1, e2, e3, ?_⟩
  exact spO0 (as := [.d (.ob c ds)]) (g.trans g1) (ev.up g1 em1) ht (ds := [.ob c ds]) rfl ⟨v, [], rfl, r1, rfl⟩ (thnE q g1) hc
theorem we_meth {c : Nat} {m : Str} {dsp : DSp} {apos pos : Pos} {pl : Sem Bool} (B : Mc C.X C.W c m dsp) (h : WE C o ρ M fun x M1 => ∃ ds, x = .d (.ob c ds) ∧ WA C (e :: es) ρ M1 fun as M2 => allD as fun _ => call0 C ρ dsp (.d (.ob c ds) :: as) M2 Ψ)
    (h1 : starEach (e :: es) C.X.env = (false, eval e C.X.env) :: starEach es C.X.env := by rfl) (h2 : (backTo pos (starEach es C.X.env)).any (·.1) = false := by rfl)
    (h3 : eval (.Call (.Attribute o m apos) (e :: es) [] pos) C.X.env = (eval o C.X.env >>= fun ov => standAt apos.atName >>= fun _ => holding [ov] (getMethod ov m pl) >>= fun p => callWith pos p.1 p.2 (backTo pos (starEach (e :: es) C.X.env)) (backToKw pos (keywordEach [] C.X.env))) := by rfl) :
    WE C (.Call (.Attribute o m apos) (e :: es) [] pos) ρ M Ψ := by
  obtain ⟨f, fd, ps, k, FO, hr, hm, hb⟩ := B.ex
  refine ⟨fun S α0 H0 α σ H Q bs g ev q => ?_⟩
  obtain ⟨Wx, tk, ht⟩ := bs.tk
  refine uE_of (pe_methE (pl := pl) pe_u B.cl hm FO hr hb (passAt tk) pa_u h1 h2 h3) ?_
  refine h.run S α0 H0 α σ H _ bs g ev fun x M1 β v H1 p1 em1 g1 r1 => ?_
  obtain ⟨ds, ex, p1⟩ := p1
  subst ex
  obtain ⟨a, dx, fs, e1, e2, e3⟩ := ob_lk B.nf r1
  refine ⟨a, dx, fs, e1, e2, e3, ?_⟩
  refine p1.run S α0 H0 (α ++ β) σ H1 _ bs (g.trans g1) (ev.up g1 em1) fun as M2 β2 vs H2 p2 em2 g2 r2 => ?_
  obtain ⟨es', hu, hc⟩ := unD_of_allD p2
  exact spO0 (as := .d (.ob c ds) :: as) ((g.trans g1).trans g2) ((ev.up g1 em1).up g2 em2) ht (ds := .ob c ds :: es') (by show (unD as).map _ = _; rw [hu]; rfl) ⟨v, vs, rfl, r1.up g2, r2⟩ (thnE (thnE q g1) g2) hc
theorem ob_i {c : Nat} {ds : List D} {R : List D → Prop} (h : R ds) : ∃ es, AV.d (.ob c ds) = .d (.ob c es) ∧ R es := ⟨ds, rfl, h⟩
end
end Dl

/-! DLP: comprehensions whose turns change the store. -/
namespace Dl
open PySem L2
/-- the tests and the element, at a turn -/
def LcJ (C : Ctx) (scope : Scope) (n : Nat) (elt : Expr) (ρ : Rho) (acc : List D) (R : List D → Mm → Prop) : List Expr → Mm → Prop
  | [], M => ∀ X', BkX C scope X' → WE (C.bk X' n) elt ρ M fun y M4 => Clo n y M4 fun y' M5 => ∃ M2 x, M5 = M2 ++ [.l acc] ∧ M2.length + 1 = n ∧ y' = .d x ∧ R (acc ++ [x]) M2
  | c :: cs, M => ∀ X', BkX C scope X' → WT (C.bk X' n) c ρ M fun b M3 => (b = true → LcJ C scope n elt ρ acc R cs M3) ∧ (b = false → ∃ M2, M3.take n = M2 ++ [.l acc] ∧ M2.length + 1 = n ∧ R acc M2)
section
variable {P : Program} {w : World} {K : PySem.W.Frag} {mg : Str → Option Value} {base : Heap} {N gs : List Str} {Vi Li : List Nat} {k : Nat}
variable {C : Ctx} {elt iter tg iter1 tg1 : Expr} {ρ : Rho} {M : Mm} {Φ : Kn} {Ψ : AV → Mm → Prop} {x : Str} {pos p pos' px : Pos} {scope : Scope} {own : List (Str × Nat)} {j : Nat} {ifs ifs1 : List Expr}
/-- what stands behind a turn -/
def Nxj (W : Wd) (S : Addr → Prop) (α : Als) (n : Nat) (H1 : Hp) (p : Addr) (R : List D → Mm → Prop) (H : Hp) : Prop := ∃ acc M, M.length = n ∧ R acc M ∧ Nxt W S α M H1 p acc H
theorem nxj_put {X : Cx} {S : Addr → Prop} {α : Als} {H1 H2 H3 : Hp} {p : Addr} {acc : List D} {v : V} {β : Als} {a : AV} {M' : Mm} {R : List D → Mm → Prop} (g : Nxt C.W S α M H1 p acc H2) (ha : acc.length < 10000000)
    (em : EM C.W S (α ++ [[p]] ++ β) M' H3) (gr : Gr (α ++ [[p]]) β H2 H3) (r : RepA C.W S (α ++ [[p]] ++ β) H3 a v) (c : Clo (M.length + 1) a M' fun a' M5 => ∃ M2 x, M5 = M2 ++ [.l acc] ∧ M2.length + 1 = M.length + 1 ∧ a' = .d x ∧ R (acc ++ [x]) M2) :
    ∃ us, H3 p = some (.lst us) ∧ us.length < sizeLine ∧ Nxj C.W S α M.length H1 p R (upd H3 p (.lst (us ++ [v]))) := by
  obtain ⟨em0, g0⟩ := g
  have hlen : (α ++ [[p]]).length = M.length + 1 := by rw [← em0.len]; simp
  obtain ⟨a', M5, α2, ⟨M2, x, e2, el, e1, e3⟩, em2, g2, r2⟩ := clo_ok (C := C.bk X (M.length + 1)) (bs_bk (C := C) (X := X) (n := M.length + 1) hlen em0.trA) ⟨β, rfl, gr⟩ em r c
  subst e1; subst e2
  have el : M2.length = M.length := by omega
  obtain ⟨γ, eγ, g3⟩ := g2
  have hγ : γ = [] := by
    have h1 := em2.len
    have h2 := em0.len
    rw [eγ, List.length_append] at h1
    simp only [List.length_append, List.length_cons, List.length_nil] at h1 h2
    exact List.eq_nil_of_length_eq_zero (by omega)
  subst hγ
  rw [app_nil] at eγ
  subst eγ
  have hal : α.length = M.length := by have := hlen; simp at this; exact this
  have hk : (α ++ [[p]])[M2.length]? = some [p] := by rw [el, ← hal]; simp
  obtain ⟨p', us, ep, _, hh, rr⟩ := cell_l (k := M2.length) (v := .ref p) (ds := acc) em2 (by simp) ⟨p, [], hk, rfl⟩
  cases ep
  obtain ⟨em4, g4⟩ := em2.put (k := M2.length) (o := .lst (us ++ [v])) (m' := .l (acc ++ [x])) hk ⟨p, _, rfl, upd_same, reps_put hk (reps_app rr (reps_cons r2 reps_nil))⟩
  refine ⟨us, hh, by rw [reps_len rr, sizeLine_eq]; omega, acc ++ [x], M2, el, e3, ?_, ?_⟩
  · have e : (M2 ++ [MO.l acc]).set M2.length (.l (acc ++ [x])) = M2 ++ [.l (acc ++ [x])] := by simp
    rw [← e]; exact em4
  · have z := g0.trans (g3.trans (by rw [app_nil]; exact g4))
    simp only [app_nil, List.append_nil] at z; exact z
/-- a turn: at most one test -/
theorem lcJ_turn (hif : ifs.length ≤ 1) {S : Addr → Prop} {α : Als} {H H2 : Hp} {p : Addr} {acc : List D} {R : List D → Mm → Prop} {ρ2 : Rho} {σ2 : L2.St} (nx : Nxt C.W S α M H p acc H2) (ha : acc.length < 10000000) (ev : Ev C.W S (α ++ [[p]]) ρ2 (M ++ [.l acc]) σ2 H2)
    (h : LcJ C scope (M.length + 1) elt ρ2 acc R ifs (M ++ [.l acc])) :
    tsBk C scope ifs σ2 H2 fun b H3 => if b = true then eBk C scope elt σ2 H3 fun y H4 => ∃ us, H4 p = some (.lst us) ∧ us.length < sizeLine ∧ Nxj C.W S α M.length H p R (upd H4 p (.lst (us ++ [y]))) else Nxj C.W S α M.length H p R H3 := by
  have hlen : (α ++ [[p]]).length = M.length + 1 := by rw [← nx.1.len]; simp
  match ifs, hif, h with
  | [], _, h =>
    show (if true = true then _ else Nxj C.W S α M.length H p R H2)
    rw [if_pos rfl]
    intro X2 hX2
    refine (h X2 hX2).run S (α ++ [[p]]) H2 (α ++ [[p]]) σ2 H2 _ (bs_bk hlen nx.1.trA) Gr0.refl ev fun y M4 β v H4 cc em4 g4 r4 => ?_
    exact nxj_put (C := C) (X := X2) nx ha em4 g4 r4 cc
  | [c], _, h =>
    intro X' hX'
    refine (h X' hX').run S (α ++ [[p]]) H2 (α ++ [[p]]) σ2 H2 _ (bs_bk (C := C) (X := X') (n := M.length + 1) hlen nx.1.trA) Gr0.refl ev fun b M3 β H3 hb em3 g3 => ?_
    cases b with
    | false =>
      rw [if_neg Bool.false_ne_true]
      obtain ⟨M2, e1, el, e2⟩ := hb.2 rfl
      have em4 := em3.take (M.length + 1)
      rw [e1, ← hlen, List.take_left' rfl] at em4
      have g5 : Gr (α ++ [[p]]) [] H2 H3 := ⟨g3.kp, g3.st, fun l hl => by simp at hl⟩
      refine ⟨acc, M2, by omega, e2, em4, ?_⟩
      have z := nx.2.trans g5
      rw [app_nil] at z; exact z
    | true =>
      rw [if_pos rfl]
      intro X2 hX2
      refine (hb.1 rfl X2 hX2).run S (α ++ [[p]]) H2 (α ++ [[p]] ++ β) σ2 H3 _ (bs_bk hlen nx.1.trA) ⟨β, rfl, g3⟩ (ev.up g3 em3) fun y M4 β2 v H4 cc em4 g4 r4 => ?_
      have e : α ++ [[p]] ++ (β ++ β2) = α ++ [[p]] ++ β ++ β2 := (List.append_assoc _ _ _).symm
      exact nxj_put (C := C) (X := X2) nx ha (β := β ++ β2) (by rw [e]; exact em4) (g3.trans g4) (by rw [e]; exact r4) cc
/-- the turns -/
theorem lcj_turns {S : Addr → Prop} {α : Als} {H : Hp} {σ : L2.St} {Q : VK} {J : It} {ds : List D} {G : Als → Hp → Prop} {vs : List Nat} {bd : L2.St → Hp → (Hp → Prop) → Prop}
    (em : EM C.W S α M H) (ev : Ev C.W S α ρ M σ H) (Y : Yl C S α H J ds.length (fun i => ds[i]?) G) (Iv : Nat → List D → Mm → Prop) (hGG : ∀ α' H', Gr0 α α' H H' → G α' H') {p : Addr} (h0 : Iv 0 [] M)
    (hs : ∀ i d acc M2 H2 v, ds[i]? = some d → acc.length ≤ i → Iv i acc M2 → M2.length = M.length → Nxt C.W S α M2 H p acc H2 → Rep C.W (Av S (α ++ [[p]])) H2 d v → Ev C.W S (α ++ [[p]]) (wipeR ρ vs) (M2 ++ [.l acc]) (L2.wipe σ vs) H2 →
      gBk C scope tg v (L2.wipe σ vs) H2 fun σ2 H3 => L2.wipe σ2 vs = L2.wipe σ vs ∧ bd σ2 H3 (Nxj C.W S α M.length H p fun acc' M' => acc'.length ≤ i + 1 ∧ Iv (i + 1) acc' M'))
    (q : PostE C S α H Ψ Q) (hd : ∀ acc M', M'.length = M.length → acc.length ≤ ds.length → Iv ds.length acc M' → Ψ (.m M.length) (M' ++ [.l acc])) (hp : H p = none) :
    ∃ W : Nat → Nat → Hp → Prop, (∃ m, W 0 m (upd H p (.lst []))) ∧ ∀ i m H, W i m H →
      (J.stop i H ∧ Q (.ref p) H) ∨ (J.go i H ∧ ∃ Nx : Hp → Prop, (∀ H', Nx H' → ∃ m', m' < m ∧ W (i + 1) m' H') ∧ ∀ x H', J.yld i H x H' → gBk C scope tg x (L2.wipe σ vs) H' fun σ2 H2 => L2.wipe σ2 vs = L2.wipe σ vs ∧ bd σ2 H2 Nx) := by
  have start : Nxt C.W S α M H p [] (upd H p (.lst [])) := by
    refine newM (C := C) (Ψ := fun a M' => a = .m M.length ∧ M' = M ++ [.l []]) (Q := fun v H' => v = .ref p → Nxt C.W S α M H p [] H') (m := .l []) em (fun a M' β v H' pp em' g' r' ev' => ?_) hp ⟨p, [], rfl, upd_same, reps_nil⟩ ⟨rfl, rfl⟩ rfl
    obtain ⟨e1, e2⟩ := pp
    subst e1; subst e2; subst ev'
    obtain ⟨p', us, ep, hk, _, _⟩ := cell_l (k := M.length) (ds := []) em' (by simp) r'
    cases ep
    have hl := em'.len
    have hl2 := em.len
    simp only [List.length_append, List.length_cons, List.length_nil] at hl
    have : β = [[p]] := by
      match β, hl, hk with
      | [b], _, hk => rw [hl2] at hk; simp at hk; rw [hk]
      | [], hl, _ => simp at hl; omega
      | _ :: _ :: _, hl, _ => simp at hl; omega
    subst this
    exact ⟨em', [[p]], rfl, g'⟩
  refine ⟨fun i m H' => m = ds.length - i ∧ i ≤ ds.length ∧ Nxj C.W S α M.length H p (fun acc M' => acc.length ≤ i ∧ Iv i acc M') H', ⟨ds.length, by simp, Nat.zero_le _, [], M, rfl, ⟨Nat.le_refl _, h0⟩, start⟩, ?_⟩
  rintro i m H2 ⟨rfl, hi, acc, M2, hl, ⟨hac, iv⟩, nx⟩
  by_cases hlt : i < ds.length
  · refine .inr ⟨Y.go i _ H2 hlt (hGG _ _ nx.2), Nxj C.W S α M.length H p (fun acc M' => acc.length ≤ i + 1 ∧ Iv (i + 1) acc M'), fun H' z => ⟨ds.length - (i + 1), by omega, rfl, hlt, z⟩, fun v H3 y => ?_⟩
    obtain ⟨sm, d, hd', r⟩ := Y.yld i _ H2 v H3 (M2 ++ [.l acc]) hlt (hGG _ _ nx.2) nx.2 nx.1 y
    have nx2 : Nxt C.W S α M2 H p acc H3 := ⟨by have z := nx.1.on' sm; rw [app_nil] at z; exact z, by have z := nx.2.trans (Gr.same sm); rw [app_nil] at z; exact z⟩
    have ev2 : Ev C.W S (α ++ [[p]]) ρ (M2 ++ [.l acc]) σ H3 := by
      obtain ⟨β, eβ, gβ⟩ := nx2.2
      have : β = [[p]] := List.append_cancel_left eβ.symm
      subst this
      exact ev.up gβ nx2.1
    exact hs i d acc M2 H3 v hd' hac iv hl nx2 r (ev2.wipe vs)
  · have e : i = ds.length := by omega
    subst e
    obtain ⟨β, eβ, gβ⟩ := nx.2
    have : β = [[p]] := List.append_cancel_left eβ.symm
    subst this
    refine .inl ⟨Y.stop _ H2 (hGG _ _ nx.2), q (.m M.length) _ [[p]] (.ref p) H2 (hd acc M2 hl hac iv) nx.1 gβ ⟨p, [], ?_, rfl⟩⟩
    have hal := em.len
    rw [hal]; simp
def LcTurnJ (C : Ctx) (scope : Scope) (vs : List Nat) (tg : Expr) (ifs : List Expr) (elt : Expr) (ρ : Rho) (M : Mm) (d : D) (acc : List D) (R : List D → Mm → Prop) : Prop :=
  WGw C scope vs tg d (wipeR ρ vs) fun ρ2 => Nrm ρ2 (M ++ [.l acc]) fun ρ3 M3 => LcJ C scope (M.length + 1) elt ρ3 acc R ifs M3
/-- what is asked of [elt for tg in iter (if c)] with an invariant -/
abbrev LcInv (C : Ctx) (scope : Scope) (vs : List Nat) (tg : Expr) (ifs : List Expr) (elt : Expr) (ρ : Rho) (M1 : Mm) (ds : List D) (Ψ : AV → Mm → Prop) : Prop :=
  ds.length < 10000000 ∧ ∃ Iv : Nat → List D → Mm → Prop, Iv 0 [] M1 ∧ (∀ (i : Nat) d acc M2, ds[i]? = some d → acc.length ≤ i → Iv i acc M2 → M2.length = M1.length → LcTurnJ C scope vs tg ifs elt ρ M2 d acc (Iv (i + 1))) ∧
    ∀ acc M2, M2.length = M1.length → acc.length ≤ ds.length → Iv ds.length acc M2 → Ψ (.m M1.length) (M2 ++ [.l acc])
theorem lcj_mono (hif : ifs.length ≤ 1) {ρ : Rho} {n : Nat} {acc : List D} {R R' : List D → Mm → Prop} (hR : ∀ a M, a.length ≤ acc.length + 1 → R a M → R' a M) {M : Mm} (h : LcJ C scope n elt ρ acc R ifs M) : LcJ C scope n elt ρ acc R' ifs M := by
  have el : ∀ {M : Mm} {X' : Cx}, (WE (C.bk X' n) elt ρ M fun y M4 => Clo n y M4 fun y' M5 => ∃ M2 x, M5 = M2 ++ [.l acc] ∧ M2.length + 1 = n ∧ y' = .d x ∧ R (acc ++ [x]) M2) →
      WE (C.bk X' n) elt ρ M fun y M4 => Clo n y M4 fun y' M5 => ∃ M2 x, M5 = M2 ++ [.l acc] ∧ M2.length + 1 = n ∧ y' = .d x ∧ R' (acc ++ [x]) M2 := by
    intro M X' z
    refine ⟨fun S α0 H0 α σ H Q bs g ev q => z.run S α0 H0 α σ H Q bs g ev fun y M4 β v H4 cc em4 g4 r4 => q y M4 β v H4 (cc.mono fun a' M5 ⟨M2, x, e1, e2, e3, e4⟩ => ⟨M2, x, e1, e2, e3, hR _ _ (by simp) e4⟩) em4 g4 r4⟩
  match ifs, hif, h with
  | [], _, h => exact fun X' hX' => el (h X' hX')
  | [c], _, h =>
    intro X' hX'
    refine ⟨fun S α0 H0 α σ H Q bs g ev q => (h X' hX').run S α0 H0 α σ H Q bs g ev fun b M3 β H3 hb em3 g3 => q b M3 β H3 ⟨fun eb X2 hX2 => el (hb.1 eb X2 hX2), fun eb => ?_⟩ em3 g3⟩
    obtain ⟨M2, e1, e2, e3⟩ := hb.2 eb
    exact ⟨M2, e1, e2, hR _ _ (by omega) e3⟩
theorem lcj_read {own : List (Str × Nat)} (hif : ifs.length ≤ 1) {S : Addr → Prop} {α0 α : Als} {H0 H : Hp} {σ : L2.St} {Q : VK} (bs : Bs C S α0 H0) (g : Gr0 α0 α H0 H) (ev : Ev C.W S α ρ M σ H) (q : PostE C S α H Ψ Q)
    (h : WY C tg iter ρ M fun ds M1 => LcInv C scope (own.map (·.2)) tg ifs elt ρ M1 ds Ψ) :
    tLc (uY C.X tg iter) (gBk C scope tg) (tsBk C scope ifs) (eBk C scope elt) (own.map (·.2)) σ H Q := by
  refine h.run S α0 H0 α σ H _ bs g ev fun ds M1 β J H1 G p1 em1 g1 Y hG => ?_
  obtain ⟨hn, Iv, i0, h1, h2⟩ := p1
  intro p hp
  refine lcj_turns (bd := fun σ2 H2 Nx => tsBk C scope ifs σ2 H2 fun b H3 => if b = true then eBk C scope elt σ2 H3 fun y H4 => ∃ acc, H4 p = some (.lst acc) ∧ acc.length < sizeLine ∧ Nx (upd H4 p (.lst (acc ++ [y]))) else Nx H3) em1 (ev.up g1 em1) Y Iv hG i0 (fun i d acc M2 H2 v hd hac iv hl nx r ev2 => ?_) (thnE q g1) h2 hp
  intro X' hX'
  have hi : i < ds.length := (List.getElem?_eq_some_iff.mp hd).1
  refine (h1 i d acc M2 hd hac iv hl).run X' hX' S (α ++ β ++ [[p]]) _ _ H2 _ v ev2 r fun ρ' σ' pp hw ev3 => ⟨hw.trans wipe_idem, ?_⟩
  have z := lcJ_turn hif (R := fun a M' => a.length ≤ i + 1 ∧ Iv (i + 1) a M') nx (by omega) ev3 (lcj_mono hif (fun a M' ha hb => ⟨by omega, hb⟩) pp.out)
  rw [hl] at z
  exact z
/-- [elt for tg in iter (if c)], an invariant of the store -/
theorem we_lcJ (own : List (Str × Nat)) (vs : List Nat) {sc : Scope} (ok : Cok C P w K mg base N gs Vi Li k) (hE : ∃ q L f cdv, C.X.env = PyProof.Rows.envOfC q sc L f cdv) (hb : blkC N sc scope own = true)
    (h : WY C tg iter ρ M fun ds M1 => LcInv C scope vs tg ifs elt ρ M1 ds Ψ)
    (hvs : own.map (·.2) = vs := by rfl) (hif : Nat.ble ifs.length 1 = true := by rfl) (hf : ∀ y, foldedSetIterable iter C.X.env y = pure y := by intro _; rfl) : WE C (.ListComp elt [⟨tg, iter, ifs, 0⟩] scope pos) ρ M Ψ := by
  subst hvs
  exact ⟨fun S α0 H0 α σ H Q bs g ev q => uE_of (pe_lc ok.calm (by rw [ok.nE]; exact ok.nd) pi_u (bo_of ok hE hb) (fun _ _ _ _ _ => pgx_bk) (fun _ _ _ _ _ => ptsx_bk (Nat.le_of_ble_eq_true hif)) (fun _ _ _ _ _ => pe_bk) hf) (lcj_read (own := own) (Nat.le_of_ble_eq_true hif) bs g ev q h)⟩
/-- y = [elt for tg in iter (if c)], an invariant of the store -/
theorem w1_sLcJ (own : List (Str × Nat)) (vs : List Nat) {sc : Scope} {i : Nat} {y : Str} {py spos : Pos} (B : Ls C.X y i) (ok : Cok C P w K mg base N gs Vi Li k) (hE : ∃ q L f cdv, C.X.env = PyProof.Rows.envOfC q sc L f cdv) (hb : blkC N sc scope own = true)
    (hy : sc.names.lookup y = some .local) (hsw : ∀ q L f cdv, swapsWith (.ListComp elt [⟨tg, iter, ifs, 0⟩] scope pos) (some (.Name y py)) spos.line (PyProof.Rows.envOfC q sc L f cdv) = pure true)
    (h : WY C tg iter ρ M fun ds M1 => LcInv C scope vs tg ifs elt ρ M1 ds fun v M2 => Clo M.length v M2 fun v M2 => Nrm (ρ.set i (some v)) M2 Φ.nx)
    (hvs : own.map (·.2) = vs := by rfl) (hif : Nat.ble ifs.length 1 = true := by rfl) (hf : ∀ y, foldedSetIterable iter C.X.env y = pure y := by intro _; rfl) :
    W1 C (.Assign [.Name y py] (.ListComp elt [⟨tg, iter, ifs, 0⟩] scope pos) spos) ρ M Φ := by
  subst hvs
  refine ⟨fun S α0 H0 α σ H D bs g ev f => uS_of (ps_setLc (i := i) ok.calm (by rw [ok.nE]; exact ok.nd) B.nm (lkl hE hy) (swl hE hsw) pi_u (bo_of ok hE hb) (fun _ _ _ _ _ => pgx_bk) (fun _ _ _ _ _ => ptsx_bk (Nat.le_of_ble_eq_true hif)) (fun _ _ _ _ _ => pe_bk) hf) ?_⟩
  show tLc (uY C.X tg iter) (gBk C scope tg) (tsBk C scope ifs) (eBk C scope elt) (own.map (·.2)) σ H fun u H1 => D.nx (σ.set i (some u)) H1
  refine lcj_read (own := own) (Nat.le_of_ble_eq_true hif) bs g ev (Ψ := fun v M2 => Clo M.length v M2 fun v M2 => Nrm (ρ.set i (some v)) M2 Φ.nx) (fun v M1 β u H1 p1 em1 g1 r1 => ?_) h
  obtain ⟨c, M', α', hh, he, ⟨γ, eγ, gγ⟩, hr⟩ : ∃ a' M' α', Nrm (ρ.set i (some a')) M' Φ.nx ∧ EM C.W S α' M' H1 ∧ Gr0 α α' H H1 ∧ RepA C.W S α' H1 a' u :=
    clo_ok (C := { C with n0 := M.length, T := fun _ _ _ _ => False }) ⟨ev.em.len.symm, ev.em.trA, fun _ _ _ _ => False, (fun _ _ ⟨_, _, _, _, _, _, _, _, _, _, _, _, _, _, _, _, z⟩ => z.elim), fun _ _ _ _ _ _ _ _ _ z => z.elim⟩ ⟨β, rfl, g1⟩ em1 r1 p1
  subst eγ
  exact f.nx _ M' (α ++ γ) _ H1 hh.out ((ev.up gγ he).set i hr) (g.trans gγ)
theorem lcJ_n {n : Nat} {acc : List D} {R : List D → Mm → Prop} (h : ∀ X', BkX C scope X' → WE (C.bk X' n) elt ρ M fun y M4 => Clo n y M4 fun y' M5 => ∃ M2 x, M5 = M2 ++ [.l acc] ∧ M2.length + 1 = n ∧ y' = .d x ∧ R (acc ++ [x]) M2) : LcJ C scope n elt ρ acc R [] M := h
end
end Dl

/-! DLQ: min, max of a list; in of data; slices of tuples; lists as targets; lists of another length; int of a bool. -/
namespace Dl
open PySem L2
/-- t[lo:hi]: the new one's record is known -/
theorem sl_tupZ {X : Cx} : SlR X fun x lo hi H Q => ∃ (a : Addr) (xs : List V), x = .ref a ∧ SqT X.K H a xs ∧ (HT.sIx xs.length 0 lo = 0 ∧ HT.sIx xs.length xs.length hi = xs.length → Q (.ref a) H) ∧
    (¬ (HT.sIx xs.length 0 lo = 0 ∧ HT.sIx xs.length xs.length hi = xs.length) → ∀ (p : Addr) (o : Obj), o.dict = none → H p = none → Q (.ref p) (upd H p (.frz o (.tup (cutV xs lo hi))))) := by
  intro pins s σ H x v vl vu lo hi sl Q I rx hs pl pu h
  obtain ⟨a, xs, rfl, hx, q1, q2⟩ := h
  cases rx
  obtain ⟨its, r, ht, hz⟩ := I.tuple hx
  have hlen : its.toArray.size = xs.length := by rw [List.size_toArray]; exact r.length.symm
  refine ⟨"tuple", _, PyProof.Rows.slot_tuple_getitem.lookup, ht.typeIs, ?_⟩
  by_cases hw : HT.sIx xs.length 0 lo = 0 ∧ HT.sIx xs.length xs.length hi = xs.length
  · exact getItem_tuple_whole ht hs pl pu (by rw [hlen]; exact hw) ⟨.ref a, H, I, rfl, q1 hw⟩
  · refine HT.getItem_tuple_cut ht hs pl pu (by rw [hlen]; exact hw) ?_ (by rw [hlen]; exact hz)
    rw [hlen]
    have at1 := fun its' : List Value => (Heap.get?_push_size s.heap (o := { cls := .type "tuple", data := .seq its'.toArray }) rfl)
    have rr := (r.drop (HT.sIx xs.length 0 lo)).take (HT.sIx xs.length xs.length hi - HT.sIx xs.length 0 lo)
    have q3 := q2 hw s.heap.objs.size
    refine ⟨.ref s.heap.objs.size, _, I.laid (t' := s.toks) (o := .frz { cls := .type "tuple", data := .seq (((its.drop (HT.sIx xs.length 0 lo)).take (HT.sIx xs.length xs.length hi - HT.sIx xs.length 0 lo))).toArray } (.tup (cutV xs lo hi))) (fun b ob q => Heap.get?_push_of_some _ q) (Nat.le_refl _) ⟨at1 _, Nat.le_trans (cutV_length xs lo hi) hz, _, rr, ⟨_, at1 _, rfl, _, rfl⟩⟩, rfl, q3 _ rfl (I.hok.fresh (Nat.le_refl _))⟩
section
variable {P : Program} {w : World} {K : PySem.W.Frag} {mg : Str → Option Value} {base : Heap} {N gs : List Str} {Vi Li : List Nat} {k : Nat}
variable {C : Ctx} {e : Expr} {es : List Expr} {lo hi : Option Expr} {ρ : Rho} {M : Mm} {Ψ : AV → Mm → Prop} {pos p2 : Pos}
theorem wc_min1 (hc : C.X.calm = true) (wk : C.W.K = C.X.K) {x : AV} {ns : List Int} (hs : lstOf M x = some (ns.map .int)) (hn : 0 < ns.length) (h : ∀ m ∈ ns, (∀ y ∈ ns, m ≤ y) → Ψ (.d (.int m)) M) : WC C (.builtin "min") [x] M Ψ := by
  refine ⟨fun S α H Q vs em r q => ?_⟩
  obtain ⟨v, e, h1⟩ := reps1 r
  obtain ⟨b, us, e2, sq, rr⟩ := lst_rep wk em hs h1
  have eu := reps_ints rr
  subst eu
  exact uC_of (cr_min hc) ⟨b, ns, by rw [e, e2], sq, hn, fun m hm hy => stayE (a := .d (.int m)) (v := .int m) em q rfl (h m hm hy)⟩
theorem wc_max1 (hc : C.X.calm = true) (wk : C.W.K = C.X.K) {x : AV} {ns : List Int} (hs : lstOf M x = some (ns.map .int)) (hn : 0 < ns.length) (h : ∀ m ∈ ns, (∀ y ∈ ns, y ≤ m) → Ψ (.d (.int m)) M) : WC C (.builtin "max") [x] M Ψ := by
  refine ⟨fun S α H Q vs em r q => ?_⟩
  obtain ⟨v, e, h1⟩ := reps1 r
  obtain ⟨b, us, e2, sq, rr⟩ := lst_rep wk em hs h1
  have eu := reps_ints rr
  subst eu
  exact uC_of (cr_max hc) ⟨b, ns, by rw [e, e2], sq, hn, fun m hm hy => stayE (a := .d (.int m)) (v := .int m) em q rfl (h m hm hy)⟩
theorem wc_intB {b : Bool} (h : Ψ (.d (.int (if b = true then 1 else 0))) M) : WC C (.type "int") [.d (.bl b)] M Ψ :=
  ⟨fun S α H Q vs em r q => by
    obtain ⟨v, e, h1⟩ := reps1 r
    exact uC_of call_int1 (.inr ⟨b, by rw [e, show v = .bl b from h1], stayE (a := .d (.int (if b = true then 1 else 0))) (v := .int (if b then 1 else 0)) em q rfl h⟩)⟩
/-- x in xs, xs a list, data -/
theorem wo_inX (ok : Cok C P w K mg base N gs Vi Li k) {a b : AV} {x : PyData} {xs : List PyData} (ha : pyA M a = some x) (hb : pyA M b = some (.list xs)) (sx : SeqAt.shaped x = true) (sy : SeqAt.shaped (.list xs) = true) (h : Ψ (.d (.bl (xs.any fun z => PyData.eqv z x))) M) : WO C (compareOp .In) a b M Ψ :=
  ⟨fun S α H Q v u em r1 r2 q => uO_of (L2.op_inD (by have := ok.room.un; omega)) ⟨x, xs, ok.wk ▸ dpA_of em ha r1, ok.wk ▸ dpA_of em hb r2, sx, sy, stayE (a := .d (.bl _)) (v := .bl _) em q rfl h⟩⟩
theorem wo_notinX (ok : Cok C P w K mg base N gs Vi Li k) {a b : AV} {x : PyData} {xs : List PyData} (ha : pyA M a = some x) (hb : pyA M b = some (.list xs)) (sx : SeqAt.shaped x = true) (sy : SeqAt.shaped (.list xs) = true) (h : Ψ (.d (.bl (!xs.any fun z => PyData.eqv z x))) M) : WO C (compareOp .NotIn) a b M Ψ :=
  ⟨fun S α H Q v u em r1 r2 q => uO_of (L2.op_notInD (by have := ok.room.un; omega)) ⟨x, xs, ok.wk ▸ dpA_of em ha r1, ok.wk ▸ dpA_of em hb r2, sx, sy, stayE (a := .d (.bl _)) (v := .bl _) em q rfl h⟩⟩
/-- None in xs, where none of them is None -/
theorem eqv_non {z : PyData} (h : z ≠ .none) : PyData.eqv z .none = false := by
  cases z <;> first | rfl | exact absurd rfl h | simp [PyData.eqv]
theorem wo_inN (ok : Cok C P w K mg base N gs Vi Li k) {b : AV} {ds : List D} (hb : datA M b = some (.lst ds)) (hk : dOks 59 ds = true) (hn : ∀ d ∈ ds, d ≠ .non) (h : Ψ (.d (.bl false)) M) : WO C (compareOp .In) (.d .non) b M Ψ := by
  obtain ⟨xs, e1, e2, e3⟩ := dOks_py 59 ds hk
  have e4 : pyA M b = some (.list xs) := pyA_dat hb (by simp [pyD, e1])
  refine wo_inX (x := .none) ok rfl e4 (by decide) (shp (n := 60) (by omega) (by simpa [PyData.canLay0] using e2) (by simp [PyData.depth]; omega)) ?_
  have : (xs.any fun z => PyData.eqv z .none) = false := by
    have go : ∀ (ds : List D) (xs : List PyData), pyDs ds = some xs → (∀ d ∈ ds, d ≠ .non) → (xs.any fun z => PyData.eqv z .none) = false := by
      intro ds
      induction ds with
      | nil => intro xs e _; cases e; rfl
      | cons d ds ih =>
        intro xs e hn
        unfold pyDs at e
        cases q1 : pyD d with
        | none => rw [q1] at e; cases e
        | some x =>
          cases q2 : pyDs ds with
          | none => rw [q1, q2] at e; cases e
          | some ys =>
            rw [q1, q2] at e; cases e
            rw [List.any_cons, ih ys q2 fun d hd => hn d (by simp [hd]), Bool.or_false]
            refine eqv_non fun z => ?_
            subst z
            cases d <;> simp [pyD] at q1
            · exact hn _ (by simp) rfl
    exact go ds xs e1 hn
  rw [this]; exact h
/-- t[a:b], t a tuple -/
theorem we_sliceT (wk : C.W.K = C.X.K) (h : WE C e ρ M fun v M1 => WPart C lo ρ M1 fun l M2 => WPart C hi ρ M2 fun u M3 => ∃ ds, v = .d (.tup ds) ∧ Ψ (.d (.tup (cutA ds l u))) M3) :
    WE C (.Subscript e (.Slice lo hi none p2) pos) ρ M Ψ := by
  refine ⟨fun S α0 H0 α σ H Q bs g ev q => uE_of (pe_slice sl_tupZ pe_u po_u po_u) ?_⟩
  refine h.run S α0 H0 α σ H _ bs g ev fun v M1 β1 x H1 p1 em1 g1 r1 => ?_
  refine part_run p1 bs (g.trans g1) (ev.up g1 em1) fun l M2 β2 H2 p2 em2 g2 => ?_
  refine part_run p2 bs ((g.trans g1).trans g2) ((ev.up g1 em1).up g2 em2) fun u M3 β3 H3 p3 em3 g3 => ?_
  obtain ⟨ds, hs, hh⟩ := p3
  subst hs
  obtain ⟨a, vs, e, t, rr⟩ := (show ∃ a vs, x = .ref a ∧ TSq C.W (Av S (α ++ β1 ++ β2 ++ β3)) H3 a vs ∧ Reps C.W (Av S (α ++ β1 ++ β2 ++ β3)) H3 ds vs from (r1.up g2).up g3)
  have hl := reps_len rr
  refine ⟨a, vs, e, wk ▸ t.sq, fun hw => ?_, fun _ z oz hoz hz => ?_⟩
  · have ec : cutA ds l u = ds := by
      unfold cutA
      rw [← hl, hw.1, hw.2, Nat.sub_zero, List.drop_zero, hl, List.take_length]
    rw [ec] at hh
    exact stayE (a := .d (.tup ds)) em3 (thnE (thnE (thnE q g1) g2) g3) ⟨a, vs, rfl, t, rr⟩ hh
  · refine newE (x := .tup (cutA ds l u)) (v := .ref z) (o := .frz oz (.tup (cutV vs l u))) em3 (thnE (thnE (thnE q g1) g2) g3) hz ⟨z, cutV vs l u, rfl, TSq.of (em3.off hz) hoz upd_same, ?_⟩ hh
    unfold cutA cutV
    rw [hl]
    exact reps_same (same_new hz) (reps_takeN _ (reps_dropN _ rr))
theorem we_slice {v : AV} {ds : List D} (wk : C.W.K = C.X.K) (h : WE C e ρ M fun v M1 => WPart C lo ρ M1 fun l M2 => WPart C hi ρ M2 fun u M3 => (∃ ds, v = .d (.tup ds) ∧ Ψ (.d (.tup (cutA ds l u))) M3)) :
    WE C (.Subscript e (.Slice lo hi none p2) pos) ρ M Ψ := we_sliceT wk h
/-- (a, b, ..) = a list that is data -/
theorem wg_lst {ds : List D} {n : Nat} {Ψ : Rho → Mm → Prop} (ok : Cok C P w K mg base N gs Vi Li k) (h : WGs C es ds ρ M Ψ)
    (hn : (assignEach es C.X.env).length = ds.length := by rfl) (hst : (assignEach es C.X.env).findIdx? (·.1) = none := by rfl) : WG C (.Tuple es n pos) (.d (.lst ds)) ρ M Ψ := by
  refine ⟨fun S α σ H Q v ev r q => uG_of (pg_unl (n := ds.length) ok.calm pgs_u hn hst) ?_⟩
  obtain ⟨a, vs, e, t, rr⟩ := (show ∃ a vs, v = .ref a ∧ LSq C.W (Av S α) H a vs ∧ Reps C.W (Av S α) H ds vs from r)
  exact ⟨a, vs, e, ok.wk ▸ t.sq, reps_len rr, h.run S α σ H Q vs ev rr q⟩
/-- lists of another length -/
theorem op_eqLen {X : Cx} (hu : X.A.units < cLine) : OpR X (compareOp .Eq) fun x y H Q => ∃ a b xs ys, x = .ref a ∧ y = .ref b ∧ SqL X.K H a xs ∧ SqL X.K H b ys ∧ xs.length ≠ ys.length ∧ Q (.bl false) H := by
  intro pins s σ H x y v u Q I rx ry h
  obtain ⟨a, b, xs, ys, rfl, rfl, ha, hb, hl, q⟩ := h
  cases rx
  cases ry
  obtain ⟨its, r1, p1, _⟩ := I.list ha
  obtain ⟨its2, r2, p2, _⟩ := I.list hb
  have hh : ∀ {l : Addr} {items : Array Value}, (∃ o m, s.heap.get? l = some o ∧ o.cls = .type "list" ∧ o.data = .seq items m ∧ True) → s.heap.IsList l items := fun ⟨o, m, e, c, d, _⟩ => ⟨o, e, c, m, d⟩
  refine SeqAt.eq_list_lengthsAt p1.isList p2.isList ?_ hu ⟨.bl false, H, I, rfl, q⟩
  have e1 := r1.length
  have e2 := r2.length
  simp only [bne_iff_ne, ne_eq, List.size_toArray]
  omega
theorem wo_eqLen (ok : Cok C P w K mg base N gs Vi Li k) {a b : AV} {ds es : List D} (ha : lstOf M a = some ds) (hb : lstOf M b = some es) (hl : ds.length ≠ es.length) (h : Ψ (.d (.bl false)) M) : WO C (compareOp .Eq) a b M Ψ := by
  refine ⟨fun S α H Q v u em r1 r2 q => ?_⟩
  obtain ⟨p, vs, e, s1, rr1⟩ := lst_rep ok.wk em ha r1
  obtain ⟨p2, us, e2, s2, rr2⟩ := lst_rep ok.wk em hb r2
  exact uO_of (op_eqLen (by have := ok.room.un; omega)) ⟨p, p2, vs, us, e, e2, s1, s2, by rw [reps_len rr1, reps_len rr2]; exact hl, stayE (a := .d (.bl false)) (v := .bl false) em q rfl h⟩
/-! ### wide * and // -/
def CMulX (i j : Int) : Prop := CMul i j ∨ CMulW i j
def CDivX (i j : Int) : Prop := CDiv i j ∨ CDivW i j
theorem wo_mulX {i j : Int} (hc : CMulX i j) (h : Ψ (.d (.int (i * j))) M) : WO C (binaryOp .Mult) (.d (.int i)) (.d (.int j)) M Ψ := hc.elim (fun c => wo_mul c h) fun c => wo_mulW c h
theorem wo_fdivX {i j : Int} (hc : CDivX i j) (h : Ψ (.d (.int (i / j))) M) : WO C (binaryOp .FloorDiv) (.d (.int i)) (.d (.int j)) M Ψ := hc.elim (fun c => wo_fdiv c h) fun c => wo_fdivW c h
/-- at most n bits -/
def Bd (n : Nat) (i : Int) : Prop := i.natAbs < 2 ^ n
theorem Bd.mono {n m : Nat} {i : Int} (h : Bd n i) (hn : n ≤ m) : Bd m i := Nat.lt_of_lt_of_le h (Nat.pow_le_pow_right (by decide) hn)
theorem Bd.mul {n m : Nat} {i j : Int} (a : Bd n i) (b : Bd m j) : Bd (n + m) (i * j) := by
  unfold Bd at *
  rw [Int.natAbs_mul, Nat.pow_add]
  exact Nat.mul_lt_mul'' a b
theorem Bd.add {n m : Nat} {i j : Int} (a : Bd n i) (b : Bd m j) : Bd (max n m + 1) (i + j) := by
  have a' := a.mono (Nat.le_max_left n m)
  have b' := b.mono (Nat.le_max_right n m)
  unfold Bd at *
  rw [Nat.pow_succ]
  have := Int.natAbs_add_le i j
  omega
theorem Bd.neg {n : Nat} {i : Int} (a : Bd n i) : Bd n (-i) := by unfold Bd at *; rw [Int.natAbs_neg]; exact a
theorem Bd.sub {n m : Nat} {i j : Int} (a : Bd n i) (b : Bd m j) : Bd (max n m + 1) (i - j) := by rw [Int.sub_eq_add_neg]; exact a.add b.neg
theorem Bd.log {n : Nat} {i : Int} (a : Bd n i) : i.natAbs.log2 ≤ n := by
  by_cases h : i.natAbs = 0
  · rw [h]; simp
  · have := (Nat.log2_lt h).mpr a; omega
theorem cmulX {n m : Nat} {i j : Int} (a : Bd n i) (b : Bd m j) (h : n + m < 1000000) : CMulX i j := .inr (by have := a.log; have := b.log; show _ < _; omega)
theorem cdivX {m : Nat} {i j : Int} (h0 : 0 < j) (b : Bd m j) (h : m < 9000) : CDivX i j := .inr ⟨h0, by have := b.log; omega⟩
end
end Dl

/-! DLR: slices of lists and tuples by one rule; steps for slices. -/
namespace DlN
open PySem PySem.W
theorem hd_mk {K : Frag} {C : Addr} {cd : ClassData} (e : clsIn K C = some cd) (m : (match cd.mro with | .ref D :: _ => D == C | _ => false) = true) : hdOwn K C = true := by
  unfold hdOwn
  rw [e]
  exact m
end DlN
namespace Dl
open PySem L2
/-- the slice of a list or a tuple -/
def SlP (M : Mm) (v : AV) (l u : Option Int) (Ψ : AV → Mm → Prop) : Prop := (∃ ds, v = .d (.tup ds) ∧ Ψ (.d (.tup (cutA ds l u))) M) ∨ ∃ ds, lstOf M v = some ds ∧ Ψ (.m M.length) (M ++ [.l (cutA ds l u)])
section
variable {P : Program} {w : World} {K : PySem.W.Frag} {mg : Str → Option Value} {base : Heap} {N gs : List Str} {Vi Li : List Nat} {k : Nat}
variable {C : Ctx} {e : Expr} {es : List Expr} {lo hi : Option Expr} {ρ : Rho} {M : Mm} {Ψ : AV → Mm → Prop} {pos p2 : Pos}
theorem we_slc (wk : C.W.K = C.X.K) (h : WE C e ρ M fun v M1 => WPart C lo ρ M1 fun l M2 => WPart C hi ρ M2 fun u M3 => SlP M3 v l u Ψ) :
    WE C (.Subscript e (.Slice lo hi none p2) pos) ρ M Ψ := by
  refine ⟨fun S α0 H0 α σ H Q bs g ev q => uE_of (pe_slice (SlR.or sl_list sl_tupZ) pe_u po_u po_u) ?_⟩
  refine h.run S α0 H0 α σ H _ bs g ev fun v M1 β1 x H1 p1 em1 g1 r1 => ?_
  refine part_run p1 bs (g.trans g1) (ev.up g1 em1) fun l M2 β2 H2 p2 em2 g2 => ?_
  refine part_run p2 bs ((g.trans g1).trans g2) ((ev.up g1 em1).up g2 em2) fun u M3 β3 H3 p3 em3 g3 => ?_
  rcases p3 with ⟨ds, hs, hh⟩ | ⟨ds, hs, hh⟩
  · refine .inr ?_
    subst hs
    obtain ⟨a, vs, e, t, rr⟩ := (show ∃ a vs, x = .ref a ∧ TSq C.W (Av S (α ++ β1 ++ β2 ++ β3)) H3 a vs ∧ Reps C.W (Av S (α ++ β1 ++ β2 ++ β3)) H3 ds vs from (r1.up g2).up g3)
    have hl := reps_len rr
    refine ⟨a, vs, e, wk ▸ t.sq, fun hw => ?_, fun _ z oz hoz hz => ?_⟩
    · have ec : cutA ds l u = ds := by
        unfold cutA
        rw [← hl, hw.1, hw.2, Nat.sub_zero, List.drop_zero, hl, List.take_length]
      rw [ec] at hh
      exact stayE (a := .d (.tup ds)) em3 (thnE (thnE (thnE q g1) g2) g3) ⟨a, vs, rfl, t, rr⟩ hh
    · refine newE (x := .tup (cutA ds l u)) (v := .ref z) (o := .frz oz (.tup (cutV vs l u))) em3 (thnE (thnE (thnE q g1) g2) g3) hz ⟨z, cutV vs l u, rfl, TSq.of (em3.off hz) hoz upd_same, ?_⟩ hh
      unfold cutA cutV
      rw [hl]
      exact reps_same (same_new hz) (reps_takeN _ (reps_dropN _ rr))
  · refine .inl ?_
    obtain ⟨a, vs, e, sq, rr⟩ := lst_rep wk em3 hs ((r1.up g2).up g3)
    refine ⟨a, vs, e, sq, fun z hz => ?_⟩
    refine newM (m := .l (cutA ds l u)) em3 (thnE (thnE (thnE q g1) g2) g3) hz ⟨z, _, rfl, upd_same, ?_⟩ hh
    have hl := reps_len rr
    unfold cutA cutV
    rw [hl]
    exact reps_takeN _ (reps_dropN _ (reps_new hz rr))
theorem part_n {Ψ : Option Int → Mm → Prop} (h : Ψ none M) : WPart C none ρ M Ψ := h
theorem part_s {Ψ : Option Int → Mm → Prop} (h : WE C e ρ M fun x M1 => ∃ i, x = .d (.int i) ∧ Ψ (some i) M1) : WPart C (some e) ρ M Ψ := h
theorem int_i {i : Int} {R : Int → Prop} (h : R i) : ∃ j, AV.d (.int i) = .d (.int j) ∧ R j := ⟨i, rfl, h⟩
theorem slp_t {ds : List D} {l u : Option Int} (h : Ψ (.d (.tup (cutA ds l u))) M) : SlP M (.d (.tup ds)) l u Ψ := .inl ⟨ds, rfl, h⟩
theorem slp_l {v : AV} {ds : List D} {l u : Option Int} (e : lstOf M v = some ds) (h : Ψ (.m M.length) (M ++ [.l (cutA ds l u)])) : SlP M v l u Ψ := .inr ⟨ds, e, h⟩
end
end Dl

/-! DLS: assignments that keep a new list in the store; forgetting things of the store. -/
namespace Dl
open PySem L2
def noM (n : Nat) (ρ : Rho) : Bool := ρ.all fun
  | some (.m j) => Nat.ble (j + 1) n
  | _ => true
def LeR : Rho → Rho → Prop
  | [], [] => True
  | a :: r, b :: s => (a = none ∨ a = b) ∧ LeR r s
  | _, _ => False
theorem LeR.len : ∀ {ρ' ρ : Rho}, LeR ρ' ρ → ρ'.length = ρ.length
  | [], [], _ => rfl
  | _ :: r, _ :: s, h => by rw [List.length_cons, List.length_cons, LeR.len h.2]
  | [], _ :: _, h => h.elim
  | _ :: _, [], h => h.elim
theorem LeR.get : ∀ {ρ' ρ : Rho}, LeR ρ' ρ → ∀ (i : Nat) (a : AV), ρ'[i]? = some (some a) → ρ[i]? = some (some a)
  | [], [], _, i, a, h => by simp at h
  | x :: r, y :: s, h, 0, a, e => by
    have e : x = some a := by simpa using e
    rcases h.1 with z | z
    · rw [z] at e; cases e
    · rw [← z, e]; rfl
  | x :: r, y :: s, h, i + 1, a, e => by
    rw [List.getElem?_cons_succ] at e ⊢
    exact LeR.get h.2 i a e
  | [], _ :: _, h, _, _, _ => h.elim
  | _ :: _, [], h, _, _, _ => h.elim
section
variable {P : Program} {w : World} {K : PySem.W.Frag} {mg : Str → Option Value} {base : Heap} {N gs : List Str} {Vi Li : List Nat} {k : Nat}
variable {C : Ctx} {e elt iter tg : Expr} {ρ ρ' : Rho} {M M' : Mm} {Φ : Kn} {x : Str} {pos : Pos} {scope : Scope} {ifs : List Expr} {sts : List Stmt}
theorem w1_sE {i : Nat} {pos' : Pos} {sc : Scope} (B : Ls C.X x i) (hE : ∃ q L f cdv, C.X.env = PyProof.Rows.envOfC q sc L f cdv) (hsw : ∀ q L f cdv, swapsWith e (some (.Name x pos')) pos.line (PyProof.Rows.envOfC q sc L f cdv) = pure false)
    (h : WE C e ρ M fun v M' => Nrm (ρ.set i (some v)) M' Φ.nx) : W1 C (.Assign [.Name x pos'] e pos) ρ M Φ := w1_s B h (by
  obtain ⟨q, L, f, cdv, e1⟩ := hE
  rw [e1]; exact hsw q L f cdv)
/-- y = [elt for tg in iter (if c)], kept in the store -/
theorem w1_sLcT (own : List (Str × Nat)) (vs : List Nat) {sc : Scope} {i : Nat} {y : Str} {py spos : Pos} (B : Ls C.X y i) (ok : Cok C P w K mg base N gs Vi Li k) (hE : ∃ q L f cdv, C.X.env = PyProof.Rows.envOfC q sc L f cdv) (hb : blkC N sc scope own = true)
    (hy : sc.names.lookup y = some .local) (hsw : ∀ q L f cdv, swapsWith (.ListComp elt [⟨tg, iter, ifs, 0⟩] scope pos) (some (.Name y py)) spos.line (PyProof.Rows.envOfC q sc L f cdv) = pure true)
    (h : WY C tg iter ρ M fun ds M1 => ds.length < 10000000 ∧ ∃ g : D → Option D, (∀ (i : Nat) d, ds[i]? = some d → LcTurn C scope vs tg ifs elt ρ M1 d (g d)) ∧ Nrm (ρ.set i (some (.m M1.length))) (M1 ++ [.l (ds.filterMap g)]) Φ.nx)
    (hvs : own.map (·.2) = vs := by rfl) (hif : Nat.ble ifs.length 1 = true := by rfl) (hf : ∀ y, foldedSetIterable iter C.X.env y = pure y := by intro _; rfl) :
    W1 C (.Assign [.Name y py] (.ListComp elt [⟨tg, iter, ifs, 0⟩] scope pos) spos) ρ M Φ := by
  subst hvs
  refine ⟨fun S α0 H0 α σ H D bs g ev f => uS_of (ps_setLc (i := i) ok.calm (by rw [ok.nE]; exact ok.nd) B.nm (lkl hE hy) (swl hE hsw) pi_u (bo_of ok hE hb) (fun _ _ _ _ _ => pgx_bk) (fun _ _ _ _ _ => ptsx_bk (Nat.le_of_ble_eq_true hif)) (fun _ _ _ _ _ => pe_bk) hf) ?_⟩
  show tLc (uY C.X tg iter) (gBk C scope tg) (tsBk C scope ifs) (eBk C scope elt) (own.map (·.2)) σ H fun u H1 => D.nx (σ.set i (some u)) H1
  refine lc_read (own := own) (Nat.le_of_ble_eq_true hif) bs g ev (Ψ := fun v M2 => Nrm (ρ.set i (some v)) M2 Φ.nx) (fun v M1 β u H1 p1 em1 g1 r1 => ?_) h
  exact f.nx _ M1 (α ++ β) _ H1 p1.out ((ev.up g1 em1).set i r1) (g.trans g1)
/-- the same with an invariant -/
theorem w1_sLcJT (own : List (Str × Nat)) (vs : List Nat) {sc : Scope} {i : Nat} {y : Str} {py spos : Pos} (B : Ls C.X y i) (ok : Cok C P w K mg base N gs Vi Li k) (hE : ∃ q L f cdv, C.X.env = PyProof.Rows.envOfC q sc L f cdv) (hb : blkC N sc scope own = true)
    (hy : sc.names.lookup y = some .local) (hsw : ∀ q L f cdv, swapsWith (.ListComp elt [⟨tg, iter, ifs, 0⟩] scope pos) (some (.Name y py)) spos.line (PyProof.Rows.envOfC q sc L f cdv) = pure true)
    (h : WY C tg iter ρ M fun ds M1 => LcInv C scope vs tg ifs elt ρ M1 ds fun v M2 => Nrm (ρ.set i (some v)) M2 Φ.nx)
    (hvs : own.map (·.2) = vs := by rfl) (hif : Nat.ble ifs.length 1 = true := by rfl) (hf : ∀ y, foldedSetIterable iter C.X.env y = pure y := by intro _; rfl) :
    W1 C (.Assign [.Name y py] (.ListComp elt [⟨tg, iter, ifs, 0⟩] scope pos) spos) ρ M Φ := by
  subst hvs
  refine ⟨fun S α0 H0 α σ H D bs g ev f => uS_of (ps_setLc (i := i) ok.calm (by rw [ok.nE]; exact ok.nd) B.nm (lkl hE hy) (swl hE hsw) pi_u (bo_of ok hE hb) (fun _ _ _ _ _ => pgx_bk) (fun _ _ _ _ _ => ptsx_bk (Nat.le_of_ble_eq_true hif)) (fun _ _ _ _ _ => pe_bk) hf) ?_⟩
  show tLc (uY C.X tg iter) (gBk C scope tg) (tsBk C scope ifs) (eBk C scope elt) (own.map (·.2)) σ H fun u H1 => D.nx (σ.set i (some u)) H1
  refine lcj_read (own := own) (Nat.le_of_ble_eq_true hif) bs g ev (Ψ := fun v M2 => Nrm (ρ.set i (some v)) M2 Φ.nx) (fun v M1 β u H1 p1 em1 g1 r1 => ?_) h
  exact f.nx _ M1 (α ++ β) _ H1 p1.out ((ev.up g1 em1).set i r1) (g.trans g1)
theorem lcTJ_i {vs : List Nat} {d : D} {acc : List D} {R : List D → Mm → Prop} (h : WGw C scope vs tg d (wipeR ρ vs) fun ρ2 => Nrm ρ2 (M ++ [.l acc]) fun ρ3 M3 => LcJ C scope (M.length + 1) elt ρ3 acc R ifs M3) : LcTurnJ C scope vs tg ifs elt ρ M d acc R := h
theorem lcJ_n' {n : Nat} {acc : List D} {R : List D → Mm → Prop} (h : ∀ X', BkX C scope X' → WE (C.bk X' n) elt ρ M fun y M4 => Clo n y M4 fun y' M5 => ∃ M2 x, M5 = M2 ++ [.l acc] ∧ M2.length + 1 = n ∧ y' = .d x ∧ R (acc ++ [x]) M2) : LcJ C scope n elt ρ acc R [] M := h
theorem lcJ_c {n : Nat} {acc : List D} {R : List D → Mm → Prop} {c : Expr} {cs : List Expr} (h : ∀ X', BkX C scope X' → WT (C.bk X' n) c ρ M fun b M3 => (b = true → LcJ C scope n elt ρ acc R cs M3) ∧ (b = false → ∃ M2, M3.take n = M2 ++ [.l acc] ∧ M2.length + 1 = n ∧ R acc M2)) : LcJ C scope n elt ρ acc R (c :: cs) M := h
theorem lcJE_i {n : Nat} {M4 : Mm} {acc : List D} {v : D} {Q : Mm → D → Prop} (e : M4 = M4.dropLast ++ [.l acc]) (hl : M4.dropLast.length + 1 = n) (h : Q M4.dropLast v) : ∃ M2 x, M4 = M2 ++ [.l acc] ∧ M2.length + 1 = n ∧ AV.d v = .d x ∧ Q M2 x := ⟨_, v, e, hl, rfl, h⟩
theorem lcJN_i {n : Nat} {M4 : Mm} {acc : List D} {Q : Mm → Prop} (e : M4 = M4.dropLast ++ [.l acc]) (hl : M4.dropLast.length + 1 = n) (h : Q M4.dropLast) : ∃ M2, M4 = M2 ++ [.l acc] ∧ M2.length + 1 = n ∧ Q M2 := ⟨_, e, hl, h⟩
/-- returns hand the store's thing over -/
structure RetK : Prop where
theorem w1_rtk {pos : Pos} (z : RetK) (h : WE C e ρ M Φ.rt) : W1 C (.Return (some e) pos) ρ M Φ := w1_retK h
theorem wo_powN {Ψ : AV → Mm → Prop} {i j n : Int} (hc : CPow i j) (e : i ^ j.toNat = n) (h : Ψ (.d (.int n)) M) : WO C (binaryOp .Pow) (.d (.int i)) (.d (.int j)) M Ψ := wo_pow hc (by rw [e]; exact h)
/-- slots are wiped, things from n on are let go -/
theorem ws_forget (n : Nat) (ρ' : Rho) (M' : Mm) (hn : Nat.ble C.n0 n = true) (hr : LeR ρ' ρ) (hs : noM n ρ' = true) (hM : M.take n = M') (h : WS C sts ρ' M' Φ) : WS C sts ρ M Φ := by
  subst hM
  refine ⟨fun S α0 H0 α σ H D bs g ev f => ?_⟩
  have hl := hr.len
  have hρ := hr.get
  have hn := Nat.le_of_ble_eq_true hn
  have hl0 : α0.length ≤ n := by rw [bs.1]; exact hn
  have g' : Gr0 α0 (α.take n) H0 H := by
    obtain ⟨β, e, g1⟩ := g
    subst e
    refine ⟨β.take (n - α0.length), by rw [List.take_append, List.take_of_length_le hl0], g1.kp, g1.st, fun l hl => g1.fr l (List.mem_of_mem_take hl)⟩
  refine h.run S α0 H0 (α.take n) σ H D bs g' ⟨ev.em.take n, by rw [ev.len, hl], fun i a hi => ?_⟩ f
  obtain ⟨v, h1, h2⟩ := ev.sl i a (hρ i a hi)
  refine ⟨v, h1, ?_⟩
  cases a with
  | d x => exact Rep.tr (fun b hb => .inl (av_less (fun l hl => List.mem_of_mem_take hl) hb)) (fun _ _ _ z => z) x v h2
  | m j =>
    obtain ⟨p, l, e1, e2⟩ := (show ∃ p l, α[j]? = some (p :: l) ∧ v = .ref p from h2)
    have hj : j < n := by
      have z := List.all_eq_true.mp hs (some (.m j)) (List.mem_of_getElem? hi)
      exact Nat.le_of_ble_eq_true z
    exact ⟨p, l, by rw [List.getElem?_take, if_pos hj]; exact e1, e2⟩
end
end Dl

/-! DLT: enumerate of a list or of a tuple. -/
namespace Dl
open PySem L2
def IteB (t : Bool) (K : PySem.W.Frag) (a : Addr) : It where
  go := fun i H => ∃ (xs : List V) (x : V), SqB t K H a xs ∧ xs[i]? = some x
  yld := fun i H v H' => ∃ T x, v = .ref T ∧ H T = none ∧ H' = upd H T (.tup [.int (i : Nat), x]) ∧ ∀ xs, SqB t K H a xs → xs[i]? = some x
  stop := fun i H => ∃ xs : List V, SqB t K H a xs ∧ xs.length = i
theorem turnEB {P : Program} {w : World} {K : PySem.W.Frag} {elts : List Expr} {kk : Nat} {tpos : Pos} (t : Bool) (a e it : Addr) (nei : e ≠ it) (nea : e ≠ a) (nia : a ≠ it) :
    Turn P w K (.Tuple elts kk tpos) (IteB t K a) [e, it] e (fun i h => (∃ old, IsEnum h e it (i : Nat) old) ∧ ItB t h it a i) where
  mem := by simp
  obj := fun i h st b hb => by
    obtain ⟨⟨old, he⟩, hi⟩ := st
    rcases (by simpa using hb : b = e ∨ b = it) with z | z
    · subst z; exact ⟨_, he, fun v q => nomatch q⟩
    · subst z; exact hi.obj
  keep := fun i h h' st k => ⟨⟨st.1.choose, k e (by simp) _ st.1.choose_spec⟩, st.2.at fun o q => k it (by simp) o q⟩
  item := by
    intro X hP hw hK hc i pins s σ H E I hf st hg
    subst hP hw hK
    obtain ⟨⟨old, he⟩, hit⟩ := st
    obtain ⟨xs, x, hq, hx⟩ := hg
    obtain ⟨its, rv, p, hz⟩ := invB I hq
    obtain ⟨u, hu, ru⟩ := rv.get hx
    have hh := I.ok.hd hc
    have hel : e < s.heap.objs.size := Heap.lt_size he
    have hil : it < s.heap.objs.size := by obtain ⟨o, q, _⟩ := hit.obj; exact Heap.lt_size q
    refine wpAny_pyNext_enum_itemD (drawsB t (by exact hh) it a nia its.toArray) he ⟨hit, p⟩ (by simpa using (List.getElem?_eq_some_iff.mp hu).1) nei (by simp; exact ⟨nei, nea⟩) fun x1 h' tk hx1 ho hs' hT hsz hk => ?_
    have e1 : x1 = u := by simp at hx1; rw [hu] at hx1; exact (Option.some.inj hx1).symm
    subst e1
    refine ⟨_, rfl, wpAny_letOwnedTupleGo_enum (s := { s with heap := h', toks := tk + 1 }) ho fun h'' he' sb => ?_⟩
    have hT2 := (sb.2 _ (Nat.ne_of_gt hel)).trans hT
    have new : ObjOk X.prog X.w (upd H s.heap.objs.size (.tup [.int (i : Nat), x])) h'' s.heap.objs.size (.tup [.int (i : Nat), x]) :=
      ⟨by show 2 ≤ sizeLine; decide, [.int i tk, x1], .cons ⟨_, rfl⟩ (.cons ru .nil), ⟨_, hT2, rfl, _, rfl⟩⟩
    have I1 : Inv X pins σ (upd H s.heap.objs.size (.tup [.int (i : Nat), x])) { s with heap := h'', toks := tk + 1 } :=
      I.turnedNew (ch := [e, it]) (fun b ob hb q => (sb.2 b (fun z => hb (by simp [z]))).trans (hk b ob (fun z => hb (by simp [z])) (fun z => hb (by simp [z])) q)) hf (Nat.le_refl _) new
    refine ⟨.ref s.heap.objs.size, _, I1, rfl, ⟨_, x, rfl, I.hok.fresh (Nat.le_refl _), rfl, fun ys hy => by rw [injB I hy hq]; exact hx⟩, ⟨⟨x1, ?_⟩, hs'.1.at fun o q => (sb.2 it (Ne.symm nei)).trans q⟩, fun b hb => ?_⟩
    · rw [show ((i + 1 : Nat) : Int) = (i : Int) + 1 by omega]
      exact he'
    · have hb' : b < s.heap.objs.size := by
        rcases (by simpa using hb : b = e ∨ b = it) with z | z <;> rw [z] <;> assumption
      rw [upd_ne (Nat.ne_of_lt hb')]
      exact (hf b hb).1
  done := by
    intro X hP hw hK hc i pins s σ H E I hf st hg
    subst hP hw hK
    obtain ⟨⟨old, he⟩, hit⟩ := st
    obtain ⟨xs, hq, hx⟩ := hg
    obtain ⟨its, rv, p, hz⟩ := invB I hq
    have hh := I.ok.hd hc
    have hl := rv.length
    obtain ⟨f0, f1, f2, f3, f4, f5⟩ := hf it (by simp)
    have es : its.toArray.size = i := by simp; omega
    exact wpAny_pyNext_enum_endD (drawsB t (by exact hh) it a nia its.toArray) he ⟨by rw [es]; exact hit, p⟩ fun h' eb => ⟨rfl, I.turned (t' := s.toks) (fun b o hb q => eb b o hb q) f0 f1 f3 f4 f5⟩
  self := fun A i s Q E st h => wpAny_pyIter_enum st.1.choose_spec h
set_option maxHeartbeats 1000000 in
theorem meetsE1 {v : Value} {o : Obj} {H : Heap → Prop} (B : Begins v o H) :
    Meets (Builtin.«enumerate.__new__» ⟨[.type "enumerate", v], []⟩) fun _ R s => H s.heap ∧
      R (.ok (.ret (.ref (s.heap.push o).objs.size))) { s with heap := (s.heap.push o).push { cls := .type "enumerate", data := .fields #[.none, .bool false, .ref s.heap.objs.size, rawInt 0, .none, .none] } } := by
  refine .of_wp fun prog w A R s h => ?_
  obtain ⟨hp, g, d, tk, os⟩ := s
  obtain ⟨h1, h⟩ := h
  have sub := sub_enumerate
  have it1 : ∀ {A' : Around} {E : Value → Shared → Prop} {Q : Value → Shared → Prop}, Q (.ref hp.objs.size) ⟨hp.push o, g, d, tk, os⟩ → wpAny (model prog w) A' (pyIter v) Q E ⟨hp, g, d, tk, os⟩ := fun q => B.iter prog w _ _ ⟨hp, g, d, tk, os⟩ _ h1 q
  wp_walk using it1
  refine wpAny_stack_any fun st => wpAny_pure ?_
  split
  · rename_i c _ _ _ _ _
    cases (c == Value.type "enumerate") <;> (wp_walk using it1; exact ⟨_, rfl, h⟩)
  · wp_walk using it1
    exact ⟨_, rfl, h⟩
theorem enum1 {prog : Program} {w : World} {A : Around} {E : Value → Shared → Prop} {s : Shared} {v : Value} {o : Obj} {H : Heap → Prop} {Q : Value → Shared → Prop} (B : Begins v o H) (h1 : H s.heap)
    (h : ∀ h', IsEnum h' (s.heap.objs.size + 1) s.heap.objs.size 0 .none → h'.get? s.heap.objs.size = some o → h'.objs.size = s.heap.objs.size + 2 →
      (∀ b o, s.heap.get? b = some o → h'.get? b = some o) → Q (.ref (s.heap.objs.size + 1)) { s with heap := h' }) :
    wpAny (model prog w) A (call (.type "enumerate") [v]) Q E s := by
  refine callType_new F.called_enumerate (by decide) (F.typeCall_enumerate_1 _) (F.newCall_enumerate_1 _) (fun obj => F.args_object_init_2 obj _) F.entry_enumerate_new (meetsE1 B) ⟨h1, ?_⟩
  have hz : (s.heap.push o).objs.size = s.heap.objs.size + 1 := Heap.size_push ..
  show _ ∧ _
  rw [hz]
  have g := Heap.get?_push_size (s.heap.push o) (o := { cls := .type "enumerate", data := .fields #[.none, .bool false, .ref s.heap.objs.size, rawInt 0, .none, .none] }) rfl
  rw [hz] at g
  exact ⟨⟨_, g, rfl⟩, h _ g (Heap.get?_push_of_some _ (Heap.get?_push_size _ B.free)) (by rw [Heap.size_push, hz]) fun b o x => Heap.get?_push_of_some _ (Heap.get?_push_of_some _ x)⟩
theorem pi_enB {X : Cx} {e : Expr} {ta : TA} {p pos tpos : Pos} {elts : List Expr} {kk : Nat} (hg : Gl X "enumerate") (hm : X.mg "enumerate" = none) (ha : PA X [e] ta) (hs : starEach [e] X.env = [(false, eval e X.env)] := by rfl) :
    PI X (.Tuple elts kk tpos) (.Call (.Name "enumerate" p) [e] [] pos) fun σ H R => ta σ H fun vs H1 => ∃ t a xs, vs = [.ref a] ∧ SqB t X.K H1 a xs ∧ R (IteB t X.K a) H1 := by
  refine ⟨fun pins s σ H R I h => ?_⟩
  refine PyProof.Rows.Call_ (ld_blt I hg hm PyProof.Rows.boot_enumerate (PyProof.Rows.callWith_type1 (thn (ha.run pos pins s σ H _ I h) fun us s1 ⟨vs, H1, I1, r1, q1⟩ => ?_) hs rfl))
  obtain ⟨t, a, xs, ex, hq, q⟩ := q1
  subst ex
  cases r1 with
  | cons r rr =>
    cases rr
    cases r
    obtain ⟨its, rv, p1, la⟩ := invB I1 hq
    refine enum1 (beginsB t a its.toArray) p1 fun h' he h1 hsz hk => wpAny_pyIter_enum he ?_
    have I2 : Inv X pins σ H1 { s1 with heap := h' } := I1.kept (t' := s1.toks) hk
    refine ⟨s1.heap.objs.size + 1, [s1.heap.objs.size + 1, s1.heap.objs.size], _, _, H1, rfl, I2, turnEB t a (s1.heap.objs.size + 1) s1.heap.objs.size (Nat.succ_ne_self _) (Nat.ne_of_gt (Nat.lt_succ_of_lt la)) (Nat.ne_of_lt la), ⟨⟨.none, he⟩, itO_at h1⟩, fun b hb => ?_, q⟩
    have hle : s1.heap.objs.size ≤ b := by
      rcases (by simpa using hb : b = s1.heap.objs.size + 1 ∨ b = s1.heap.objs.size) with z | z
      · rw [z]; exact Nat.le_succ _
      · rw [z]; exact Nat.le_refl _
    exact I1.fpOk hle (I1.hok.fresh hle)
section
variable {C : Ctx} {a : Expr} {ρ : Rho} {M : Mm} {pos' p : Pos}
theorem wy_EB {elts : List Expr} {kk : Nat} {tpos : Pos} {Ψ : List D → Mm → Prop} (wk : C.W.K = C.X.K) (B : Bt C.X "enumerate" "enumerate")
    (h : WE C a ρ M fun v M1 => ∃ t ds, frz? v = some (t, ds) ∧ Ψ (enD ds) M1)
    (hs : starEach [a] C.X.env = [(false, eval a C.X.env)] := by rfl) (hs1 : starEach [a] C.X.env = (false, eval a C.X.env) :: starEach [] C.X.env := by rfl) :
    WY C (.Tuple elts kk tpos) (.Call (.Name "enumerate" p) [a] [] pos') ρ M Ψ := by
  refine ⟨fun S α0 H0 α σ H R bs g ev q => uY_of (pi_enB B.gl B.mg (pa_cons pe_u pa_nil hs1) hs) ?_⟩
  refine h.run S α0 H0 α σ H _ bs g ev fun v M1 β u H1 p1 em1 g1 r1 => ?_
  obtain ⟨t, ds, f, hh⟩ := p1
  obtain ⟨q1, vs, e1, rr, k1⟩ := frz_src wk f r1
  have l1 := reps_len rr
  refine ⟨t, q1, vs, by rw [e1], k1 _ _ Gr0.refl, ?_⟩
  refine q _ M1 β _ H1 (fun _ H' => SqB t C.X.K H' q1 vs) hh em1 g1 ?_ fun α' H' gg => k1 _ _ gg
  rw [enD_len]
  refine ⟨fun i α' H' hi s1 => ⟨vs, vs[i]'(by omega), s1, List.getElem?_eq_getElem _⟩, fun α' H' s1 => ⟨vs, s1, by omega⟩, fun i α' H' x H'' M' hi s1 gg em y => ?_⟩
  obtain ⟨T, x1, ex, hT, eH, y1⟩ := (show ∃ T x1, x = .ref T ∧ H' T = none ∧ H'' = upd H' T (.tup [.int (i : Nat), x1]) ∧ ∀ xs, SqB t C.X.K H' q1 xs → xs[i]? = some x1 from y)
  obtain ⟨d1, z1, z2⟩ := reps_get' rr (y1 vs s1)
  obtain ⟨γ, eγ, gγ⟩ := gg
  subst eγ
  subst eH
  refine ⟨same_new hT, .tw [.int (i : Nat), d1], enD_get z1, ?_⟩
  refine ⟨T, [.int (i : Nat), x1], ex, TSw.of (em.off hT) upd_same, ?_⟩
  exact reps_same (same_new hT) (reps_cons (show V.int (i : Nat) = .int (i : Nat) from rfl) (reps_cons (z2.up gγ) reps_nil))
/-- fresh lists among the arguments are frozen -/
theorem wy_EC {elts : List Expr} {kk : Nat} {tpos : Pos} {Ψ : List D → Mm → Prop} (wk : C.W.K = C.X.K) (B : Bt C.X "enumerate" "enumerate")
    (h : WE C a ρ M fun v M' => Clo M.length v M' fun v M1 => Nrm ρ M1 fun _ M1 => ∃ t ds, frz? v = some (t, ds) ∧ Ψ (enD ds) M1)
    (hs : starEach [a] C.X.env = [(false, eval a C.X.env)] := by rfl) (hs1 : starEach [a] C.X.env = (false, eval a C.X.env) :: starEach [] C.X.env := by rfl) :
    WY C (.Tuple elts kk tpos) (.Call (.Name "enumerate" p) [a] [] pos') ρ M Ψ :=
  wy_EB wk B (we_clo (h.mono fun _ _ c => c.mono fun _ _ z => z.out)) hs hs1
theorem wy_FC {tg : Expr} {Ψ : List D → Mm → Prop} (wk : C.W.K = C.X.K) (h : WE C a ρ M fun v M' => Clo M.length v M' fun v M1 => Nrm ρ M1 fun _ M1 => ∃ t ds, frz? v = some (t, ds) ∧ Ψ ds M1) : WY C tg a ρ M Ψ :=
  wy_F wk (we_clo (h.mono fun _ _ c => c.mono fun _ _ z => z.out))
theorem wy_ZC {b : Expr} {elts : List Expr} {kk : Nat} {tpos : Pos} {Ψ : List D → Mm → Prop} (wk : C.W.K = C.X.K) (B : Bt C.X "zip" "zip")
    (h : WE C a ρ M fun v M' => Clo M.length v M' fun v1 M1 => Nrm ρ M1 fun _ M1 => WE C b ρ M1 fun v M' => Clo M1.length v M' fun v2 M2 => Nrm ρ M2 fun _ M2 => ∃ t1 t2 ds es, frz? v1 = some (t1, ds) ∧ frz? v2 = some (t2, es) ∧ Ψ ((ds.zip es).map fun p => .tup [p.1, p.2]) M2)
    (hs : starEach [a, b] C.X.env = (false, eval a C.X.env) :: starEach [b] C.X.env := by rfl) (hs2 : starEach [b] C.X.env = (false, eval b C.X.env) :: starEach [] C.X.env := by rfl) (hpl : (backTo pos' (starEach [b] C.X.env)).any (·.1) = false := by rfl) :
    WY C (.Tuple elts kk tpos) (.Call (.Name "zip" p) [a, b] [] pos') ρ M Ψ :=
  wy_Z wk B (we_clo (h.mono fun _ _ c => c.mono fun _ _ z => we_clo (z.out.mono fun _ _ c => c.mono fun _ _ z => z.out))) hs hs2 hpl
theorem w1_forget {st : Stmt} {Φ : Kn} (n : Nat) (ρ' : Rho) (M' : Mm) (hn : Nat.ble C.n0 n = true) (hr : LeR ρ' ρ) (hs : noM n ρ' = true) (hM : M.take n = M') (h : W1 C st ρ' M' Φ) : W1 C st ρ M Φ := by
  subst hM
  refine ⟨fun S α0 H0 α σ H D bs g ev f => ?_⟩
  have hl := hr.len
  have hρ := hr.get
  have hn := Nat.le_of_ble_eq_true hn
  have hl0 : α0.length ≤ n := by rw [bs.1]; exact hn
  have g' : Gr0 α0 (α.take n) H0 H := by
    obtain ⟨β, e, g1⟩ := g
    subst e
    refine ⟨β.take (n - α0.length), by rw [List.take_append, List.take_of_length_le hl0], g1.kp, g1.st, fun l hl => g1.fr l (List.mem_of_mem_take hl)⟩
  refine h.run S α0 H0 (α.take n) σ H D bs g' ⟨ev.em.take n, by rw [ev.len, hl], fun i a hi => ?_⟩ f
  obtain ⟨v, h1, h2⟩ := ev.sl i a (hρ i a hi)
  refine ⟨v, h1, ?_⟩
  cases a with
  | d x => exact Rep.tr (fun b hb => .inl (av_less (fun l hl => List.mem_of_mem_take hl) hb)) (fun _ _ _ z => z) x v h2
  | m j =>
    obtain ⟨p, l, e1, e2⟩ := (show ∃ p l, α[j]? = some (p :: l) ∧ v = .ref p from h2)
    have hj : j < n := by
      have z := List.all_eq_true.mp hs (some (.m j)) (List.mem_of_getElem? hi)
      exact Nat.le_of_ble_eq_true z
    exact ⟨p, l, by rw [List.getElem?_take, if_pos hj]; exact e1, e2⟩
end
end Dl

local macro_rules | `(tactic| fail "dl_def") => `(tactic| (refine' Dl.defAt_of ?X ?G ?a ?l ?c ?k; (case X => assumption); (case G => assumption); (case a => k_is); (case l => k_is); (case c => k_is); (case k => k_is)))
local macro_rules | `(tactic| fail "dl_meth") => `(tactic| (refine' Dl.methAt_of ?a ?l ?c ?k ?i; (case a => k_is); (case l => k_is); (case c => k_is); (case k => k_is); (case i => k_is)))
local macro_rules | `(tactic| fail "dl_none") => `(tactic| (refine' PySem.W.mg_none_of ?X ?G ?a; (case X => assumption); (case G => assumption); (case a => k_is)))
local macro_rules | `(tactic| fail "dl_glo") => `(tactic| (refine' PySem.W.mg_of ?X ?G ?a; (case X => assumption); (case G => assumption); (case a => k_is)))
local macro_rules | `(tactic| fail "dl_cst") => `(tactic| first | (refine' Dl.cstI_of ?X ?G ?a ?e; (case X => assumption); (case G => assumption); (case a => k_is); (case e => exact ⟨_, rfl⟩)) | (refine' Dl.cstS_of ?X ?G ?a ?e; (case X => assumption); (case G => assumption); (case a => k_is); (case e => exact ⟨_, rfl⟩)))
local macro_rules | `(tactic| fail "dl_kit") => `(tactic| (first | k_is | kit_is | decide +kernel))
local macro_rules | `(tactic| fail "sc") => `(tactic| first | rfl | exact .inl rfl | exact .inr (.inl rfl) | exact .inr (.inr rfl))
local macro_rules | `(tactic| fail "asx") => `(tactic| first | with_reducible assumption | ((with_reducible show Dl.Fx _ _ _ _ _); exact Dl.bk_fxx (by with_reducible assumption) (by fail "asx")) | ((with_reducible show Dl.Bx _ _ _); exact Dl.bk_bxx (by with_reducible assumption) (by fail "asx")) | ((with_reducible show Dl.Tx _ _ _); exact Dl.bk_txx (by with_reducible assumption) (by fail "asx")) | ((with_reducible show Dl.Cxx _ _ _ _ _); exact Dl.bk_cxx (by with_reducible assumption) (by fail "asx")))
local macro_rules | `(tactic| fail "asb") => `(tactic| first | ((with_reducible show Dl.Lv _ _ _); first | exact Dl.bk_lv (by with_reducible assumption) (by fail "as") (by fail "sc") | exact Dl.bk_lvN (by with_reducible assumption) (by fail "ok") (by with_reducible assumption) rfl rfl (by fail "sc")) | ((with_reducible show Dl.Fc _ _ _ _ _); first | exact Dl.bk_fW (by with_reducible assumption) (by fail "as") (by fail "sc") | exact Dl.bk_fx (by with_reducible assumption) (by fail "asx") (by fail "sc")) | ((with_reducible show Dl.Bk _ _ _); first | exact Dl.bk_b (by with_reducible assumption) (by fail "as") (by fail "sc") | exact Dl.bk_bx (by with_reducible assumption) (by fail "asx") (by fail "sc")) | ((with_reducible show Dl.Bt _ _ _); first | exact Dl.bk_t (by with_reducible assumption) (by fail "as") (by fail "sc") | exact Dl.bk_tx (by with_reducible assumption) (by fail "asx") (by fail "sc")) | ((with_reducible show Dl.Cc _ _ _ _ _); first | exact Dl.bk_cW (by with_reducible assumption) (by fail "as") (by fail "sc") | exact Dl.bk_cx (by with_reducible assumption) (by fail "asx") (by fail "sc")) | ((with_reducible show Dl.Gi _ _ _); first | exact Dl.bk_gi (by with_reducible assumption) (by fail "as") (by fail "sc") | exact Dl.bk_ix (by with_reducible assumption) (by with_reducible assumption) (by fail "sc")) | ((with_reducible show Dl.Gs _ _ _); first | exact Dl.bk_gs (by with_reducible assumption) (by fail "as") (by fail "sc") | exact Dl.bk_sx (by with_reducible assumption) (by with_reducible assumption) (by fail "sc")) | ((with_reducible show Dl.Mc _ _ _ _ _); exact Dl.bk_mc (by with_reducible assumption) (by fail "as")) | ((with_reducible show (_ : PySem.W.Frag) = _); first | exact Dl.bk_wk (by with_reducible assumption) (by fail "as")) | ((with_reducible show (_ : Bool) = true); first | exact Dl.bk_calm (by with_reducible assumption) (by fail "as")))
local macro_rules | `(tactic| fail "as") => `(tactic| first | with_reducible assumption | ((with_reducible show (_ : PySem.W.Frag) = _); assumption) | fail "asb")
local macro_rules | `(tactic| fail "ok") => `(tactic| first | with_reducible assumption | exact Dl.Cok.at (by with_reducible assumption) _ | exact Dl.Cok.at (Dl.Cok.at (by with_reducible assumption) _) _ | exact Dl.bk_ok (by with_reducible assumption) (by fail "ok"))
local macro_rules | `(tactic| fail "rf") => `(tactic| first | rfl | (simp only [List.set_cons_zero, List.set_cons_succ, List.cons_append, List.nil_append, List.append_nil, List.length_cons, List.length_nil, Nat.reduceAdd]; rfl))
local macro_rules | `(tactic| fail "nm") => `(tactic| (simp only [Dl.wipeR, Int.reduceToNat, List.set_cons_zero, List.set_cons_succ, List.cons_append, List.nil_append, List.append_nil, List.take_succ_cons, List.take_zero, List.take_nil, List.length_cons, List.length_nil, Nat.reduceAdd]; first | done | exact rfl))
local macro_rules | `(tactic| fail "nrm") => `(tactic| with_reducible refine Dl.nrm_i (by first | fail "nm" | exact rfl) (by first | fail "nm" | exact rfl) ?_)
local macro_rules | `(tactic| fail "dl_ws") => `(tactic| first | refine Dl.ws_one ?_ | refine Dl.ws_cons ?_ | refine Dl.ws_nil ?_)
local macro_rules | `(tactic| fail "dl_w1") => `(tactic| first | refine Dl.w1_rtk (by with_reducible assumption) ?_ | refine Dl.w1_ret ?_ | refine Dl.w1_sz (by fail "as") (by with_reducible assumption) ?_ | refine Dl.w1_s (by fail "as") ?_ | refine Dl.w1_if ?_ | refine Dl.w1_expr ?_ | refine Dl.w1_setix ?_ | refine Dl.w1_fld (by fail "ok") (by fail "as") (Dl.lt_i (by rfl)) _ (by fail "as") ?_ | refine Dl.w1_q (by fail "as") (by fail "as") (by fail "as") (by fail "as") (by decide) (by rfl) (by rfl) ?_ (by intros; rfl) | refine Dl.w1_asg ?_ | refine Dl.w1_pass ?_ | refine Dl.w1_break ?_ | refine Dl.w1_continue ?_ | refine Dl.w1_retN ?_)
local macro_rules | `(tactic| fail "dl_nm") => `(tactic| first | refine Dl.we_v (by fail "as") (by rfl) ?_ | refine Dl.we_gi (by fail "as") ?_ | refine Dl.we_tyv (by fail "as") ?_ | refine Dl.we_clsv (by fail "as") ?_ | refine Dl.we_gs (by fail "as") ?_)
local macro_rules | `(tactic| fail "dl_ca") => `(tactic| first | refine Dl.we_f (by fail "as") ?_ | refine Dl.we_b (by fail "as") ?_ | refine Dl.we_t (by fail "as") ?_ | refine Dl.we_f1 0 (by fail "as") ?_ | refine Dl.we_c (by fail "as") ?_)
local macro_rules | `(tactic| fail "dl_wo") => `(tactic| first | ((with_reducible show Dl.WO _ (PySem.binaryOp PySem.Operator.Add) _ _ _ _); first | refine Dl.wo_add ?_ | refine Dl.wo_cat (by fail "as") (by rfl) (by rfl) ?_ ?_ | refine Dl.wo_catT (by fail "as") ?_ ?_ | refine Dl.wo_binO (by fail "ok") (by fail "as") (by rfl) ?_) | ((with_reducible show Dl.WO _ (PySem.binaryOp PySem.Operator.Sub) _ _ _ _); first | refine Dl.wo_sub ?_ | refine Dl.wo_binO (by fail "ok") (by fail "as") (by rfl) ?_) | ((with_reducible show Dl.WO _ (PySem.binaryOp PySem.Operator.Mult) _ _ _ _); first | refine Dl.wo_mulX ?_ ?_ | refine Dl.wo_binO (by fail "ok") (by fail "as") (by rfl) ?_) | ((with_reducible show Dl.WO _ (PySem.binaryOp PySem.Operator.FloorDiv) _ _ _ _); first | refine Dl.wo_fdivX ?_ ?_) | ((with_reducible show Dl.WO _ (PySem.binaryOp PySem.Operator.Mod) _ _ _ _); first | refine Dl.wo_mod ?_ ?_) | ((with_reducible show Dl.WO _ (PySem.binaryOp PySem.Operator.LShift) _ _ _ _); first | refine Dl.wo_shl ?_ ?_) | ((with_reducible show Dl.WO _ (PySem.binaryOp PySem.Operator.Pow) _ _ _ _); first | refine Dl.wo_powN (by exact ⟨by decide, by decide, by decide⟩) (by simp only [Int.reduceToNat, Int.reducePow]; exact rfl) ?_ | refine Dl.wo_pow ?_ ?_) | ((with_reducible show Dl.WO _ (PySem.compareOp PySem.CmpOp.Lt) _ _ _ _); first | refine Dl.wo_lt ?_) | ((with_reducible show Dl.WO _ (PySem.compareOp PySem.CmpOp.LtE) _ _ _ _); first | refine Dl.wo_le ?_) | ((with_reducible show Dl.WO _ (PySem.compareOp PySem.CmpOp.Gt) _ _ _ _); first | refine Dl.wo_gt ?_) | ((with_reducible show Dl.WO _ (PySem.compareOp PySem.CmpOp.GtE) _ _ _ _); first | refine Dl.wo_ge ?_) | ((with_reducible show Dl.WO _ (PySem.compareOp PySem.CmpOp.Eq) _ _ _ _); first | refine Dl.wo_eq ?_ | refine Dl.wo_eqS ?_ | refine Dl.wo_eqB ?_ | refine Dl.wo_e (by fail "ok") (by fail "as") (by rfl) ?_ | refine Dl.wo_eqX (by fail "ok") (by with_unfolding_all rfl) (by with_unfolding_all rfl) ?_ ?_) | ((with_reducible show Dl.WO _ (PySem.compareOp PySem.CmpOp.NotEq) _ _ _ _); first | refine Dl.wo_ne ?_ | refine Dl.wo_neS ?_ | refine Dl.wo_neB ?_ | refine Dl.wo_neX (by fail "ok") (by with_unfolding_all rfl) (by with_unfolding_all rfl) ?_ ?_) | ((with_reducible show Dl.WO _ (PySem.compareOp PySem.CmpOp.Is) _ _ _ _); first | refine Dl.wo_is ?_) | ((with_reducible show Dl.WO _ (PySem.compareOp PySem.CmpOp.IsNot) _ _ _ _); first | refine Dl.wo_isnot ?_) | ((with_reducible show Dl.WO _ (PySem.compareOp PySem.CmpOp.In) _ _ _ _); first | refine Dl.wo_inD (by fail "ok") (by rfl) (by rfl) ?_ | refine Dl.wo_inI (by fail "as") (by rfl) ?_) | ((with_reducible show Dl.WO _ (PySem.compareOp PySem.CmpOp.NotIn) _ _ _ _); first | refine Dl.wo_notinD (by fail "ok") (by rfl) (by rfl) ?_ | refine Dl.wo_notinI (by fail "as") (by rfl) ?_) | refine Dl.wu_neg ?_)
local macro_rules | `(tactic| fail "dl_wc") => `(tactic| first | refine Dl.wc_abs ?_ | refine Dl.wc_max (by fail "as") ?_ | refine Dl.wc_min (by fail "as") ?_ | refine Dl.wc_int ?_ | refine Dl.wc_intB ?_ | refine Dl.wc_divmod ?_ ?_ | refine Dl.wc_len (by fail "as") (by rfl) ?_ | refine Dl.wc_lenD (by rfl) ?_ | refine Dl.wc_list (by fail "as") (by rfl) ?_ | refine Dl.wc_tuple (by fail "as") (by rfl) ?_ | refine Dl.wc_isi_bb (by fail "as") (by rfl) (by first | (show _ = some true; decide +kernel) | (show _ = some false; decide +kernel)) ?_ | refine Dl.wc_isi_b2 (by fail "as") (by rfl) (by first | (show _ = some true; decide +kernel) | (show _ = some false; decide +kernel)) ?_ | refine Dl.wc_isi_cc (by fail "as") (by fail "as") (by fail "as") ?_)
local macro_rules | `(tactic| fail "rho") => `(tactic| (simp only [Dl.rho0, List.map_cons, List.map_nil, List.length_cons, List.length_nil, Nat.reduceAdd, Nat.reduceSub, List.replicate_succ, List.replicate_zero, List.replicate, List.cons_append, List.nil_append, List.append_nil]; first | done | exact rfl))
local macro_rules | `(tactic| fail "dl_sp") => `(tactic| first | (with_reducible refine Dl.spl2 (fun hc => ?_) (fun hc => ?_) <;> (try simp only [decide_eq_true_eq, decide_eq_false_iff_not, Bool.not_eq_true', Bool.not_eq_false', Bool.not_true, Bool.not_false, Bool.false_eq_true, Bool.true_eq_false, reduceCtorEq, not_true_eq_false, not_false_eq_true] at hc) <;> (try (exfalso; exact hc)) <;> (try (exfalso; omega))) | (with_reducible refine Dl.spl2' (fun hc => ?_) (fun hc => ?_) <;> (try simp only [decide_eq_true_eq, decide_eq_false_iff_not, Bool.not_eq_true', Bool.not_eq_false', Bool.not_true, Bool.not_false, Bool.false_eq_true, Bool.true_eq_false, reduceCtorEq, not_true_eq_false, not_false_eq_true] at hc) <;> (try (exfalso; exact hc)) <;> (try (exfalso; omega))))
local macro_rules | `(tactic| fail "dl_cl") => `(tactic| first | with_reducible refine Dl.clo_d ?_ | with_reducible refine Dl.clo_l (Dl.nlt_i (by with_unfolding_all rfl)) (by with_unfolding_all rfl) ?_ | with_reducible refine Dl.clo_m (Dl.lt_i (by with_unfolding_all rfl)) ?_ | with_reducible refine Dl.clo_k (Dl.nlt_i (by with_unfolding_all rfl)) (by with_unfolding_all rfl) ?_)
local macro_rules | `(tactic| fail "dl_we") => `(tactic| first | refine Dl.we_v (by fail "as") (by rfl) ?_ | refine Dl.we_int ?_ | ((with_reducible show Dl.WE _ (PySem.Expr.Call _ _ _ _) _ _ _); first | refine Dl.we_listRb (by fail "as") (by fail "as") (by fail "as") ?_ | refine Dl.we_listV (by fail "as") (by fail "as") (by fail "as") (by fail "as") ?_ | fail "dl_ca" | refine Dl.we_bits (i := 0) ?_ | refine Dl.we_bm (by fail "as") PySem.F.plainAttrs_list PySem.F.slot_list_append PySem.F.type_list_append ?_ | refine Dl.we_bm (by fail "as") PySem.F.plainAttrs_list PySem.F.slot_list_pop PySem.F.type_list_pop ?_ | refine Dl.we_bm (by fail "as") PySem.F.plainAttrs_list PySem.F.slot_list_index PySem.F.type_list_index (Dl.we_v (by fail "as") (by rfl) (Dl.ty_i (by with_unfolding_all rfl) ?_)) | refine Dl.we_bmt (by fail "as") PySem.F.slot_tuple_index PySem.F.type_tuple_index (Dl.we_v (by fail "as") (by rfl) (Dl.tup_i ?_)) | refine Dl.we_meth0 (by fail "as") ?_ | refine Dl.we_meth (by fail "as") ?_) | refine Dl.we_bin ?_ | refine Dl.we_cmp ?_ | refine Dl.we_attr ?_ | ((with_reducible show Dl.WE _ (PySem.Expr.Subscript _ (PySem.Expr.Slice _ _ _ _) _) _ _ _); refine Dl.we_slc (by fail "as") ?_) | refine Dl.we_ix ?_ | ((with_reducible show Dl.WE _ (PySem.Expr.Constant _ _ _) _ _ _); first | refine Dl.we_bl ?_ | refine Dl.we_str ?_ | refine Dl.we_non ?_) | ((with_reducible show Dl.WE _ (PySem.Expr.Name _ _) _ _ _); first | refine Dl.we_gi (by fail "as") ?_ | refine Dl.we_tyv (by fail "as") ?_ | refine Dl.we_clsv (by fail "as") ?_ | refine Dl.we_gs (by fail "as") ?_) | refine Dl.we_and ?_ | refine Dl.we_or ?_ | refine Dl.we_bool1 ?_ | refine Dl.we_not ?_ | refine Dl.we_un ?_ | refine Dl.we_chain ?_ | refine Dl.we_if ?_ | refine Dl.we_tup ?_ | refine Dl.we_lst ?_ | refine Dl.we_dnew ?_)
local macro_rules | `(tactic| fail "dl_wt") => `(tactic| first | refine Dl.wt_cmp ?_ | refine Dl.wt_chain ?_ | refine Dl.wt_not ?_ | refine Dl.wt_w (Dl.ww_and ?_) | refine Dl.wt_w (Dl.ww_or ?_) | refine Dl.wt_val ?_)
local macro_rules | `(tactic| fail "dl_ww") => `(tactic| first | refine Dl.ww_and ?_ | refine Dl.ww_or ?_ | refine Dl.ww_and1 ?_ | refine Dl.ww_or1 ?_)
local macro_rules | `(tactic| fail "dl_wf") => `(tactic| first | refine Dl.wf_ob (by fail "ok") (by fail "as") _ (by fail "as") (by rfl) ?_ | refine Dl.wf_m (by fail "ok") (by fail "as") _ (by fail "as") (by rfl) (by rfl) ?_)
local macro_rules | `(tactic| fail "dl_re") => `(tactic| first | with_reducible refine Dl.isB_i ?_ | with_reducible refine Dl.allD_i (by repeat (first | exact Dl.unD_n | apply Dl.unD_c)) ?_ | ((with_reducible show Dl.Nrm _ _ _); fail "nrm") | with_reducible refine Dl.par_i ?_ | with_reducible refine Dl.fld_a (by with_unfolding_all rfl) (by with_unfolding_all rfl) (by with_unfolding_all rfl) ?_ | with_reducible refine Dl.fld_s (by with_unfolding_all rfl) (by with_unfolding_all rfl) (by with_unfolding_all rfl) ?_ | with_reducible refine Dl.bits_i ?_ | with_reducible refine Dl.bits2_i ?_ | with_reducible refine Dl.ty_i (by with_unfolding_all rfl) ?_ | with_reducible refine Dl.le_i (by with_unfolding_all rfl) ?_ | fail "dl_sp" | fail "dl_cl" | ((fail_if_success (with_reducible show Dl.Kn.nx _ _ _)); (fail_if_success (with_reducible show Dl.Kn.rt _ _ _)); first | fail "dl_lc" | fail "dl_u"))
local macro_rules | `(tactic| fail "dl_wy") => `(tactic| first | refine Dl.wy_R1 (by fail "as") ?_ | refine Dl.wy_R2 (by fail "as") ?_ | refine Dl.wy_ZC (by fail "as") (by fail "as") ?_ | refine Dl.wy_EC (by fail "as") (by fail "as") ?_ | refine Dl.wy_V (by fail "as") (by fail "as") ?_ | refine Dl.wy_FC (by fail "as") ?_)
local macro_rules | `(tactic| fail "dl_gw") => `(tactic| first | refine Dl.wgw_n (by fail "ok") (by with_reducible assumption) (by rfl) (by decide) ?_ | refine Dl.wgw_tup (by fail "ok") ?_ | refine Dl.wgw_tw (by fail "ok") ?_)
local macro_rules | `(tactic| fail "dl_lc") => `(tactic| first | ((with_reducible show Dl.WY _ _ _ _ _ _); fail "dl_wy") | ((with_reducible show Dl.WGw _ _ _ _ _ _ _); fail "dl_gw") | ((with_reducible show Dl.WGws _ _ _ _ _ _ _); first | refine Dl.wgws_cons ?_ | refine Dl.wgws_nil ?_) | with_reducible refine Dl.lcT_i fun _ _ => ?_ | with_reducible refine Dl.lcT2_i fun _ _ => ?_ | with_reducible refine Dl.allB_i fun _ _ => ?_ | with_reducible refine Dl.lcI_n fun _ _ => ?_ | with_reducible refine Dl.lcI_c fun _ _ => ?_ | ((with_reducible show And (@Eq Dl.Mm _ _) _); first | with_reducible refine Dl.lcE_i (by first | fail "nm" | exact rfl) ?_ | with_reducible refine Dl.lcN_i (by first | fail "nm" | exact rfl) ?_) | with_reducible refine Dl.lst_i (by with_unfolding_all rfl) ?_ | with_reducible refine Dl.frz_i (by with_unfolding_all rfl) ?_ | with_reducible refine Dl.frz_j (by with_unfolding_all rfl) ?_ | with_reducible refine Dl.frz_2 (by with_unfolding_all rfl) (by with_unfolding_all rfl) ?_ | with_reducible refine Dl.rgB_i (by omega) ?_ | with_reducible refine Dl.lcTJ_i ?_ | with_reducible refine Dl.lcJ_n' fun _ _ => ?_ | with_reducible refine Dl.lcJ_c fun _ _ => ?_ | with_reducible refine Dl.lcJE_i (by with_unfolding_all rfl) (by with_unfolding_all rfl) ?_ | with_reducible refine Dl.lcJN_i (by with_unfolding_all rfl) (by with_unfolding_all rfl) ?_ | with_reducible refine Dl.ob_i ?_ | with_reducible refine Dl.part_n ?_ | with_reducible refine Dl.part_s ?_ | with_reducible refine Dl.int_i ?_ | with_reducible refine Dl.slp_t ?_ | with_reducible refine Dl.slp_l (by with_unfolding_all rfl) ?_)
local macro_rules | `(tactic| fail "dl") => `(tactic| first | ((with_reducible show Dl.WE _ _ _ _ _); fail "dl_we") | ((with_reducible show Dl.WA _ _ _ _ _); first | ((with_reducible show Dl.WA _ (PySem.Expr.Call _ _ _ _ :: _) _ _ _); refine Dl.wa_z ?_) | ((with_reducible show Dl.WA _ (PySem.Expr.ListComp _ _ _ _ :: _) _ _ _); refine Dl.wa_z ?_) | ((with_reducible show Dl.WA _ (PySem.Expr.List _ _ :: _) _ _ _); refine Dl.wa_z ?_) | ((with_reducible show Dl.WA _ (PySem.Expr.Subscript _ (PySem.Expr.Slice _ _ _ _) _ :: _) _ _ _); refine Dl.wa_z ?_) | refine Dl.wa_cons ?_ | refine Dl.wa_nil ?_) | ((with_reducible show Dl.WS _ _ _ _ _); fail "dl_ws") | ((with_reducible show Dl.W1 _ _ _ _ _); fail "dl_w1") | ((with_reducible show Dl.WT _ _ _ _ _); fail "dl_wt") | ((with_reducible show Dl.WO _ _ _ _ _ _); fail "dl_wo") | ((with_reducible show Dl.WC _ _ _ _ _); fail "dl_wc") | ((with_reducible show Dl.WTw _ _ _ _ _); fail "dl_ww") | ((with_reducible show Dl.WF _ _ _ _ _); fail "dl_wf") | ((with_reducible show Dl.WI _ _ _ _ _); first | refine Dl.wi_lit (by fail "as") (by rfl) (by rfl) ?_ | refine Dl.wi_seq (by fail "as") (by rfl) (by rfl) ?_ | refine Dl.wi_dict (by fail "ok") (by rfl) (by rfl) ?_ ?_) | ((with_reducible show Dl.WSet _ _ _ _ _ _); first | refine Dl.wset_k (by fail "ok") (by rfl) (by rfl) ?_ ?_ | refine Dl.wset_lit (by rfl) (by rfl) (by first | fail "nm" | exact rfl) ?_ | refine Dl.wset_n (by rfl) (by rfl) (by first | fail "nm" | exact rfl) ?_) | ((with_reducible show Dl.WU _ _ _ _ _); refine Dl.wu_neg ?_) | ((with_reducible show Dl.WM _ _ _ _ _ _); first | refine Dl.wm_append (by rfl) ?_ ?_) | ((with_reducible show Dl.WG _ _ _ _ _ _); first | refine Dl.wg_n (by fail "as") ?_ | refine Dl.wg_tup (by fail "ok") ?_ | refine Dl.wg_tw (by fail "ok") ?_ | refine Dl.wg_lst (by fail "ok") ?_) | ((with_reducible show Dl.WGs _ _ _ _ _ _); first | refine Dl.wgs_cons ?_ | refine Dl.wgs_nil ?_) | fail "dl_re")
local macro_rules | `(tactic| fail "dls") => `(tactic| repeat' (fail "dl"))
local macro_rules | `(tactic| fail "dlj") => `(tactic| repeat' ((fail_if_success (with_reducible show Dl.WS _ (PySem.Stmt.If _ _ _ _ :: _ :: _) _ _ _)); fail "dl"))
local macro_rules | `(tactic| fail "dlg") => `(tactic| repeat (first | ((with_reducible show Dl.WG _ _ _ _ _ _); fail "dl") | ((with_reducible show Dl.WGs _ _ _ _ _ _); fail "dl") | ((with_reducible show Dl.Nrm _ _ _); fail "nrm")))
local macro_rules | `(tactic| fail "ler") => `(tactic| repeat (first | exact trivial | refine ⟨.inr rfl, ?_⟩ | refine ⟨.inl rfl, ?_⟩))
namespace Lw
open PySem L2 Dl
def topS (i : Nat) : Stmt := (PySem.Challenge.pw_sourcestold_k66_whole_tails).main.body.getD i (.Pass ⟨0, 0, 0, 0⟩)
abbrev wd (K : PySem.W.Frag) (cShare : Addr) : Wd := ⟨K, fun | _ => cShare, fun | _ => ["over", "under"]⟩
abbrev s_law : Stmt := topS 55
abbrev N_law : List Str := ["script"]
abbrev g_law : List Str := ["_law_holds", "MarkError"]
theorem sc_law : FnScope N_law ["script"] (defScope s_law) := ⟨rfl, rfl, rfl, by decide +kernel, rfl, by decide +kernel, by decide +kernel⟩
theorem vi_law : visC N_law (defScope s_law) [0] = true := by decide +kernel
theorem gl_law : glC g_law (defScope s_law) = true := by decide +kernel
abbrev s__law_holds : Stmt := topS 54
abbrev N__law_holds : List Str := ["script", "turn", "stream", "numbers", "mean", "first", "second", "at"]
abbrev g__law_holds : List Str := ["range", "_law_stream", "_law_numbers", "_law_mean", "_law_at", "_law_fits"]
theorem sc__law_holds : FnScope N__law_holds ["script"] (defScope s__law_holds) := ⟨rfl, rfl, rfl, by decide +kernel, rfl, by decide +kernel, by decide +kernel⟩
theorem vi__law_holds : visC N__law_holds (defScope s__law_holds) [0, 1, 2, 3, 4, 5, 6, 7] = true := by decide +kernel
theorem gl__law_holds : glC g__law_holds (defScope s__law_holds) = true := by decide +kernel
abbrev s__law_stream : Stmt := topS 36
abbrev N__law_stream : List Str := ["script", "at", "cell"]
abbrev g__law_stream : List Str := ["len", "int"]
theorem sc__law_stream : FnScope N__law_stream ["script", "at"] (defScope s__law_stream) := ⟨rfl, rfl, rfl, by decide +kernel, rfl, by decide +kernel, by decide +kernel⟩
theorem vi__law_stream : visC N__law_stream (defScope s__law_stream) [0, 1, 2] = true := by decide +kernel
theorem gl__law_stream : glC g__law_stream (defScope s__law_stream) = true := by decide +kernel
abbrev s_Share_add : Stmt := inClass (topS 9) 1
abbrev N_Share_add : List Str := ["self", "other"]
abbrev g_Share_add : List Str := ["Share"]
theorem sc_Share_add : FnScope N_Share_add ["self", "other"] (defScope s_Share_add) := ⟨rfl, rfl, rfl, by decide +kernel, rfl, by decide +kernel, by decide +kernel⟩
theorem vi_Share_add : visC N_Share_add (defScope s_Share_add) [0, 1] = true := by decide +kernel
theorem gl_Share_add : glC g_Share_add (defScope s_Share_add) = true := by decide +kernel
abbrev s_Share_init : Stmt := inClass (topS 9) 0
abbrev N_Share_init : List Str := ["self", "over", "under", "divisor"]
abbrev g_Share_init : List Str := ["InvalidNumber", "greatest_divisor", "abs"]
theorem sc_Share_init : FnScope N_Share_init ["self", "over", "under"] (defScope s_Share_init) := ⟨rfl, rfl, rfl, by decide +kernel, rfl, by decide +kernel, by decide +kernel⟩
theorem vi_Share_init : visC N_Share_init (defScope s_Share_init) [0, 1, 2, 3] = true := by decide +kernel
theorem gl_Share_init : glC g_Share_init (defScope s_Share_init) = true := by decide +kernel
abbrev s_greatest_divisor : Stmt := topS 7
abbrev N_greatest_divisor : List Str := ["a", "b"]
abbrev g_greatest_divisor : List Str := []
theorem sc_greatest_divisor : FnScope N_greatest_divisor ["a", "b"] (defScope s_greatest_divisor) := ⟨rfl, rfl, rfl, by decide +kernel, rfl, by decide +kernel, by decide +kernel⟩
theorem vi_greatest_divisor : visC N_greatest_divisor (defScope s_greatest_divisor) [0, 1] = true := by decide +kernel
theorem gl_greatest_divisor : glC g_greatest_divisor (defScope s_greatest_divisor) = true := by decide +kernel
abbrev s_Share_eq : Stmt := inClass (topS 9) 4
abbrev N_Share_eq : List Str := ["self", "other"]
abbrev g_Share_eq : List Str := ["isinstance", "Share"]
theorem sc_Share_eq : FnScope N_Share_eq ["self", "other"] (defScope s_Share_eq) := ⟨rfl, rfl, rfl, by decide +kernel, rfl, by decide +kernel, by decide +kernel⟩
theorem vi_Share_eq : visC N_Share_eq (defScope s_Share_eq) [0, 1] = true := by decide +kernel
theorem gl_Share_eq : glC g_Share_eq (defScope s_Share_eq) = true := by decide +kernel
abbrev s_Share_mul : Stmt := inClass (topS 9) 3
abbrev N_Share_mul : List Str := ["self", "other"]
abbrev g_Share_mul : List Str := ["Share"]
theorem sc_Share_mul : FnScope N_Share_mul ["self", "other"] (defScope s_Share_mul) := ⟨rfl, rfl, rfl, by decide +kernel, rfl, by decide +kernel, by decide +kernel⟩
theorem vi_Share_mul : visC N_Share_mul (defScope s_Share_mul) [0, 1] = true := by decide +kernel
theorem gl_Share_mul : glC g_Share_mul (defScope s_Share_mul) = true := by decide +kernel
abbrev s_Share_sub : Stmt := inClass (topS 9) 2
abbrev N_Share_sub : List Str := ["self", "other"]
abbrev g_Share_sub : List Str := ["Share"]
theorem sc_Share_sub : FnScope N_Share_sub ["self", "other"] (defScope s_Share_sub) := ⟨rfl, rfl, rfl, by decide +kernel, rfl, by decide +kernel, by decide +kernel⟩
theorem vi_Share_sub : visC N_Share_sub (defScope s_Share_sub) [0, 1] = true := by decide +kernel
theorem gl_Share_sub : glC g_Share_sub (defScope s_Share_sub) = true := by decide +kernel
abbrev s__law_numbers : Stmt := topS 42
abbrev N__law_numbers : List Str := ["stream", "way", "number", "numbers", "step"]
abbrev g__law_numbers : List Str := ["_law_draw", "range"]
theorem sc__law_numbers : FnScope N__law_numbers ["stream"] (defScope s__law_numbers) := ⟨rfl, rfl, rfl, by decide +kernel, rfl, by decide +kernel, by decide +kernel⟩
theorem vi__law_numbers : visC N__law_numbers (defScope s__law_numbers) [0, 1, 2, 3, 4] = true := by decide +kernel
theorem gl__law_numbers : glC g__law_numbers (defScope s__law_numbers) = true := by decide +kernel
abbrev s__law_draw : Stmt := topS 37
abbrev N__law_draw : List Str := ["stream", "many", "digit", "second"]
abbrev g__law_draw : List Str := ["int"]
theorem sc__law_draw : FnScope N__law_draw ["stream", "many"] (defScope s__law_draw) := ⟨rfl, rfl, rfl, by decide +kernel, rfl, by decide +kernel, by decide +kernel⟩
theorem vi__law_draw : visC N__law_draw (defScope s__law_draw) [0, 1, 2, 3] = true := by decide +kernel
theorem gl__law_draw : glC g__law_draw (defScope s__law_draw) = true := by decide +kernel
abbrev s__law_mean : Stmt := topS 43
abbrev N__law_mean : List Str := ["stream", "numbers", "way", "weights", "number", "place"]
abbrev g__law_mean : List Str := ["_law_draw", "len", "sum", "range"]
theorem sc__law_mean : FnScope N__law_mean ["stream", "numbers"] (defScope s__law_mean) := ⟨rfl, rfl, rfl, by decide +kernel, rfl, by decide +kernel, by decide +kernel⟩
theorem vi__law_mean : visC N__law_mean (defScope s__law_mean) [0, 1, 2, 3] = true := by decide +kernel
theorem gl__law_mean : glC g__law_mean (defScope s__law_mean) = true := by decide +kernel
abbrev s__law_at : Stmt := topS 44
abbrev N__law_at : List Str := ["stream", "numbers", "way"]
abbrev g__law_at : List Str := ["_law_draw", "len"]
theorem sc__law_at : FnScope N__law_at ["stream", "numbers"] (defScope s__law_at) := ⟨rfl, rfl, rfl, by decide +kernel, rfl, by decide +kernel, by decide +kernel⟩
theorem vi__law_at : visC N__law_at (defScope s__law_at) [0, 1, 2] = true := by decide +kernel
theorem gl__law_at : glC g__law_at (defScope s__law_at) = true := by decide +kernel
abbrev s__law_fits : Stmt := topS 53
abbrev N__law_fits : List Str := ["stream", "numbers", "mean", "at", "share", "greatest", "least", "row", "line", "over"]
abbrev g__law_fits : List Str := ["Share", "_law_tails", "list", "_law_same", "greatest_tail", "least_tail", "_law_spread_fits", "greatest_spread", "tuple", "least_spread", "_law_told_line", "_law_lines_judged", "greatest_square"]
theorem sc__law_fits : FnScope N__law_fits ["stream", "numbers", "mean", "at"] (defScope s__law_fits) := ⟨rfl, rfl, rfl, by decide +kernel, rfl, by decide +kernel, by decide +kernel⟩
theorem vi__law_fits : visC N__law_fits (defScope s__law_fits) [0, 1, 2, 3, 4, 5, 6, 7, 8, 9] = true := by decide +kernel
theorem gl__law_fits : glC g__law_fits (defScope s__law_fits) = true := by decide +kernel
abbrev s__law_tails : Stmt := topS 45
abbrev N__law_tails : List Str := ["numbers", "mean", "at", "greatest", "least", "place", "other", "low", "high", "full", "raising", "over"]
abbrev g__law_tails : List Str := ["range", "len", "max", "int"]
theorem sc__law_tails : FnScope N__law_tails ["numbers", "mean", "at"] (defScope s__law_tails) := ⟨rfl, rfl, rfl, by decide +kernel, rfl, by decide +kernel, by decide +kernel⟩
theorem vi__law_tails : visC N__law_tails (defScope s__law_tails) [0, 1, 2, 3, 4, 5, 6, 7, 8, 9, 10, 11] = true := by decide +kernel
theorem gl__law_tails : glC g__law_tails (defScope s__law_tails) = true := by decide +kernel
abbrev s__law_same : Stmt := topS 41
abbrev N__law_same : List Str := ["told", "due", "place"]
abbrev g__law_same : List Str := ["isinstance", "list", "_law_is_share", "tuple", "len", "range", "_law_same", "str", "bool", "_law_is_whole"]
theorem sc__law_same : FnScope N__law_same ["told", "due"] (defScope s__law_same) := ⟨rfl, rfl, rfl, by decide +kernel, rfl, by decide +kernel, by decide +kernel⟩
theorem vi__law_same : visC N__law_same (defScope s__law_same) [0, 1, 2] = true := by decide +kernel
theorem gl__law_same : glC g__law_same (defScope s__law_same) = true := by decide +kernel
abbrev s__law_is_share : Stmt := topS 40
abbrev N__law_is_share : List Str := ["told", "over", "under", "common"]
abbrev g__law_is_share : List Str := ["isinstance", "Share", "_law_is_whole", "_law_gcd", "abs"]
theorem sc__law_is_share : FnScope N__law_is_share ["told", "over", "under"] (defScope s__law_is_share) := ⟨rfl, rfl, rfl, by decide +kernel, rfl, by decide +kernel, by decide +kernel⟩
theorem vi__law_is_share : visC N__law_is_share (defScope s__law_is_share) [0, 1, 2, 3] = true := by decide +kernel
theorem gl__law_is_share : glC g__law_is_share (defScope s__law_is_share) = true := by decide +kernel
abbrev s__law_is_whole : Stmt := topS 39
abbrev N__law_is_whole : List Str := ["told"]
abbrev g__law_is_whole : List Str := ["isinstance", "int", "bool"]
theorem sc__law_is_whole : FnScope N__law_is_whole ["told"] (defScope s__law_is_whole) := ⟨rfl, rfl, rfl, by decide +kernel, rfl, by decide +kernel, by decide +kernel⟩
theorem vi__law_is_whole : visC N__law_is_whole (defScope s__law_is_whole) [0] = true := by decide +kernel
theorem gl__law_is_whole : glC g__law_is_whole (defScope s__law_is_whole) = true := by decide +kernel
abbrev s__law_gcd : Stmt := topS 38
abbrev N__law_gcd : List Str := ["one", "other", "step"]
abbrev g__law_gcd : List Str := ["range", "int"]
theorem sc__law_gcd : FnScope N__law_gcd ["one", "other"] (defScope s__law_gcd) := ⟨rfl, rfl, rfl, by decide +kernel, rfl, by decide +kernel, by decide +kernel⟩
theorem vi__law_gcd : visC N__law_gcd (defScope s__law_gcd) [0, 1, 2] = true := by decide +kernel
theorem gl__law_gcd : glC g__law_gcd (defScope s__law_gcd) = true := by decide +kernel
abbrev s_greatest_tail : Stmt := topS 28
abbrev N_greatest_tail : List Str := ["numbers", "mean", "at"]
abbrev g_greatest_tail : List Str := ["tail_of", "greatest_spread"]
theorem sc_greatest_tail : FnScope N_greatest_tail ["numbers", "mean", "at"] (defScope s_greatest_tail) := ⟨rfl, rfl, rfl, by decide +kernel, rfl, by decide +kernel, by decide +kernel⟩
theorem vi_greatest_tail : visC N_greatest_tail (defScope s_greatest_tail) [0, 1, 2] = true := by decide +kernel
theorem gl_greatest_tail : glC g_greatest_tail (defScope s_greatest_tail) = true := by decide +kernel
abbrev s_tail_of : Stmt := topS 24
abbrev N_tail_of : List Str := ["numbers", "spread", "at", "number", "share"]
abbrev g_tail_of : List Str := ["check_spread", "sum_of", "zip"]
theorem sc_tail_of : FnScope N_tail_of ["numbers", "spread", "at"] (defScope s_tail_of) := ⟨rfl, rfl, rfl, by decide +kernel, rfl, by decide +kernel, by decide +kernel⟩
theorem vi_tail_of : visC N_tail_of (defScope s_tail_of) [0, 1, 2] = true := by decide +kernel
theorem gl_tail_of : glC g_tail_of (defScope s_tail_of) = true := by decide +kernel
abbrev s_check_spread : Stmt := topS 23
abbrev N_check_spread : List Str := ["numbers", "spread"]
abbrev g_check_spread : List Str := ["check_numbers", "are_parts", "len", "InvalidTable"]
theorem sc_check_spread : FnScope N_check_spread ["numbers", "spread"] (defScope s_check_spread) := ⟨rfl, rfl, rfl, by decide +kernel, rfl, by decide +kernel, by decide +kernel⟩
theorem vi_check_spread : visC N_check_spread (defScope s_check_spread) [0, 1] = true := by decide +kernel
theorem gl_check_spread : glC g_check_spread (defScope s_check_spread) = true := by decide +kernel
abbrev s_check_numbers : Stmt := topS 22
abbrev N_check_numbers : List Str := ["numbers", "number", "other"]
abbrev g_check_numbers : List Str := ["is_sequence", "len", "MOST_NUMBERS", "InvalidTable", "all", "zip"]
theorem sc_check_numbers : FnScope N_check_numbers ["numbers"] (defScope s_check_numbers) := ⟨rfl, rfl, rfl, by decide +kernel, rfl, by decide +kernel, by decide +kernel⟩
theorem vi_check_numbers : visC N_check_numbers (defScope s_check_numbers) [0] = true := by decide +kernel
theorem gl_check_numbers : glC g_check_numbers (defScope s_check_numbers) = true := by decide +kernel
abbrev s_is_sequence : Stmt := topS 14
abbrev N_is_sequence : List Str := ["told"]
abbrev g_is_sequence : List Str := ["isinstance", "tuple", "list"]
theorem sc_is_sequence : FnScope N_is_sequence ["told"] (defScope s_is_sequence) := ⟨rfl, rfl, rfl, by decide +kernel, rfl, by decide +kernel, by decide +kernel⟩
theorem vi_is_sequence : visC N_is_sequence (defScope s_is_sequence) [0] = true := by decide +kernel
theorem gl_is_sequence : glC g_is_sequence (defScope s_is_sequence) = true := by decide +kernel
abbrev s_is_integer : Stmt := topS 12
abbrev N_is_integer : List Str := ["told"]
abbrev g_is_integer : List Str := ["isinstance", "int", "bool"]
theorem sc_is_integer : FnScope N_is_integer ["told"] (defScope s_is_integer) := ⟨rfl, rfl, rfl, by decide +kernel, rfl, by decide +kernel, by decide +kernel⟩
theorem vi_is_integer : visC N_is_integer (defScope s_is_integer) [0] = true := by decide +kernel
theorem gl_is_integer : glC g_is_integer (defScope s_is_integer) = true := by decide +kernel
abbrev s_are_parts : Stmt := topS 16
abbrev N_are_parts : List Str := ["told", "many", "part"]
abbrev g_are_parts : List Str := ["is_sequence", "len", "all", "sum_of", "Share"]
theorem sc_are_parts : FnScope N_are_parts ["told", "many"] (defScope s_are_parts) := ⟨rfl, rfl, rfl, by decide +kernel, rfl, by decide +kernel, by decide +kernel⟩
theorem vi_are_parts : visC N_are_parts (defScope s_are_parts) [0, 1] = true := by decide +kernel
theorem gl_are_parts : glC g_are_parts (defScope s_are_parts) = true := by decide +kernel
abbrev s_share_from_zero : Stmt := topS 13
abbrev N_share_from_zero : List Str := ["told"]
abbrev g_share_from_zero : List Str := ["isinstance", "Share"]
theorem sc_share_from_zero : FnScope N_share_from_zero ["told"] (defScope s_share_from_zero) := ⟨rfl, rfl, rfl, by decide +kernel, rfl, by decide +kernel, by decide +kernel⟩
theorem vi_share_from_zero : visC N_share_from_zero (defScope s_share_from_zero) [0] = true := by decide +kernel
theorem gl_share_from_zero : glC g_share_from_zero (defScope s_share_from_zero) = true := by decide +kernel
abbrev s_sum_of : Stmt := topS 10
abbrev N_sum_of : List Str := ["shares", "total", "share"]
abbrev g_sum_of : List Str := ["Share"]
theorem sc_sum_of : FnScope N_sum_of ["shares"] (defScope s_sum_of) := ⟨rfl, rfl, rfl, by decide +kernel, rfl, by decide +kernel, by decide +kernel⟩
theorem vi_sum_of : visC N_sum_of (defScope s_sum_of) [0, 1, 2] = true := by decide +kernel
theorem gl_sum_of : glC g_sum_of (defScope s_sum_of) = true := by decide +kernel
abbrev s_greatest_spread : Stmt := topS 26
abbrev N_greatest_spread : List Str := ["numbers", "mean", "at", "spreads", "spread"]
abbrev g_greatest_spread : List Str := ["_spreads_on_two", "greatest_at"]
theorem sc_greatest_spread : FnScope N_greatest_spread ["numbers", "mean", "at"] (defScope s_greatest_spread) := ⟨rfl, rfl, rfl, by decide +kernel, rfl, by decide +kernel, by decide +kernel⟩
theorem vi_greatest_spread : visC N_greatest_spread (defScope s_greatest_spread) [0, 1, 2, 3] = true := by decide +kernel
theorem gl_greatest_spread : glC g_greatest_spread (defScope s_greatest_spread) = true := by decide +kernel
abbrev s__spreads_on_two : Stmt := topS 25
abbrev N__spreads_on_two : List Str := ["numbers", "mean", "found", "high", "number", "low", "other", "part", "rest", "spread", "_"]
abbrev g__spreads_on_two : List Str := ["check_numbers", "enumerate", "Share", "tuple", "Undefined"]
theorem sc__spreads_on_two : FnScope N__spreads_on_two ["numbers", "mean"] (defScope s__spreads_on_two) := ⟨rfl, rfl, rfl, by decide +kernel, rfl, by decide +kernel, by decide +kernel⟩
theorem vi__spreads_on_two : visC N__spreads_on_two (defScope s__spreads_on_two) [0, 1, 2, 3, 4, 5, 6, 7, 8, 9] = true := by decide +kernel
theorem gl__spreads_on_two : glC g__spreads_on_two (defScope s__spreads_on_two) = true := by decide +kernel
abbrev s_Share_by : Stmt := inClass (topS 9) 5
abbrev N_Share_by : List Str := ["self", "other"]
abbrev g_Share_by : List Str := ["InvalidNumber", "Share"]
theorem sc_Share_by : FnScope N_Share_by ["self", "other"] (defScope s_Share_by) := ⟨rfl, rfl, rfl, by decide +kernel, rfl, by decide +kernel, by decide +kernel⟩
theorem vi_Share_by : visC N_Share_by (defScope s_Share_by) [0, 1] = true := by decide +kernel
theorem gl_Share_by : glC g_Share_by (defScope s_Share_by) = true := by decide +kernel
abbrev s_greatest_at : Stmt := topS 18
abbrev N_greatest_at : List Str := ["shares", "best", "at", "share"]
abbrev g_greatest_at : List Str := ["enumerate"]
theorem sc_greatest_at : FnScope N_greatest_at ["shares"] (defScope s_greatest_at) := ⟨rfl, rfl, rfl, by decide +kernel, rfl, by decide +kernel, by decide +kernel⟩
theorem vi_greatest_at : visC N_greatest_at (defScope s_greatest_at) [0, 1, 2, 3] = true := by decide +kernel
theorem gl_greatest_at : glC g_greatest_at (defScope s_greatest_at) = true := by decide +kernel
abbrev s_Share_is_below : Stmt := inClass (topS 9) 6
abbrev N_Share_is_below : List Str := ["self", "other"]
abbrev g_Share_is_below : List Str := []
theorem sc_Share_is_below : FnScope N_Share_is_below ["self", "other"] (defScope s_Share_is_below) := ⟨rfl, rfl, rfl, by decide +kernel, rfl, by decide +kernel, by decide +kernel⟩
theorem vi_Share_is_below : visC N_Share_is_below (defScope s_Share_is_below) [0, 1] = true := by decide +kernel
theorem gl_Share_is_below : glC g_Share_is_below (defScope s_Share_is_below) = true := by decide +kernel
abbrev s_least_tail : Stmt := topS 29
abbrev N_least_tail : List Str := ["numbers", "mean", "at"]
abbrev g_least_tail : List Str := ["tail_of", "least_spread"]
theorem sc_least_tail : FnScope N_least_tail ["numbers", "mean", "at"] (defScope s_least_tail) := ⟨rfl, rfl, rfl, by decide +kernel, rfl, by decide +kernel, by decide +kernel⟩
theorem vi_least_tail : visC N_least_tail (defScope s_least_tail) [0, 1, 2] = true := by decide +kernel
theorem gl_least_tail : glC g_least_tail (defScope s_least_tail) = true := by decide +kernel
abbrev s_least_spread : Stmt := topS 27
abbrev N_least_spread : List Str := ["numbers", "mean", "at", "spreads", "spread"]
abbrev g_least_spread : List Str := ["_spreads_on_two", "greatest_at"]
theorem sc_least_spread : FnScope N_least_spread ["numbers", "mean", "at"] (defScope s_least_spread) := ⟨rfl, rfl, rfl, by decide +kernel, rfl, by decide +kernel, by decide +kernel⟩
theorem vi_least_spread : visC N_least_spread (defScope s_least_spread) [0, 1, 2, 3] = true := by decide +kernel
theorem gl_least_spread : glC g_least_spread (defScope s_least_spread) = true := by decide +kernel
abbrev s__law_spread_fits : Stmt := topS 49
abbrev N__law_spread_fits : List Str := ["told", "numbers", "mean", "at", "tail", "parts", "above_none", "part", "place"]
abbrev g__law_spread_fits : List Str := ["isinstance", "tuple", "len", "range", "min", "_law_like", "_law_sum"]
theorem sc__law_spread_fits : FnScope N__law_spread_fits ["told", "numbers", "mean", "at", "tail"] (defScope s__law_spread_fits) := ⟨rfl, rfl, rfl, by decide +kernel, rfl, by decide +kernel, by decide +kernel⟩
theorem vi__law_spread_fits : visC N__law_spread_fits (defScope s__law_spread_fits) [0, 1, 2, 3, 4, 5, 6] = true := by decide +kernel
theorem gl__law_spread_fits : glC g__law_spread_fits (defScope s__law_spread_fits) = true := by decide +kernel
abbrev s__law_pair : Stmt := topS 46
abbrev N__law_pair : List Str := ["told"]
abbrev g__law_pair : List Str := ["isinstance", "Share", "_law_is_whole"]
theorem sc__law_pair : FnScope N__law_pair ["told"] (defScope s__law_pair) := ⟨rfl, rfl, rfl, by decide +kernel, rfl, by decide +kernel, by decide +kernel⟩
theorem vi__law_pair : visC N__law_pair (defScope s__law_pair) [0] = true := by decide +kernel
theorem gl__law_pair : glC g__law_pair (defScope s__law_pair) = true := by decide +kernel
abbrev s__law_like : Stmt := topS 48
abbrev N__law_like : List Str := ["one", "other"]
abbrev g__law_like : List Str := []
theorem sc__law_like : FnScope N__law_like ["one", "other"] (defScope s__law_like) := ⟨rfl, rfl, rfl, by decide +kernel, rfl, by decide +kernel, by decide +kernel⟩
theorem vi__law_like : visC N__law_like (defScope s__law_like) [0, 1] = true := by decide +kernel
theorem gl__law_like : glC g__law_like (defScope s__law_like) = true := by decide +kernel
abbrev s__law_sum : Stmt := topS 47
abbrev N__law_sum : List Str := ["parts", "over", "under", "part"]
abbrev g__law_sum : List Str := []
theorem sc__law_sum : FnScope N__law_sum ["parts"] (defScope s__law_sum) := ⟨rfl, rfl, rfl, by decide +kernel, rfl, by decide +kernel, by decide +kernel⟩
theorem vi__law_sum : visC N__law_sum (defScope s__law_sum) [0, 1, 2, 3] = true := by decide +kernel
theorem gl__law_sum : glC g__law_sum (defScope s__law_sum) = true := by decide +kernel
abbrev s__law_told_line : Stmt := topS 51
abbrev N__law_told_line : List Str := ["numbers", "at", "mean", "greatest", "told", "line"]
abbrev g__law_told_line : List Str := ["tail_line", "list", "Share", "isinstance", "tuple", "len", "_law_pair", "_law_line_fits", "_law_like", "_law_sum"]
theorem sc__law_told_line : FnScope N__law_told_line ["numbers", "at", "mean", "greatest"] (defScope s__law_told_line) := ⟨rfl, rfl, rfl, by decide +kernel, rfl, by decide +kernel, by decide +kernel⟩
theorem vi__law_told_line : visC N__law_told_line (defScope s__law_told_line) [0, 1, 2, 3, 4, 5] = true := by decide +kernel
theorem gl__law_told_line : glC g__law_told_line (defScope s__law_told_line) = true := by decide +kernel
abbrev s_tail_line : Stmt := topS 33
abbrev N_tail_line : List Str := ["numbers", "mean", "at", "most", "lines", "line"]
abbrev g_tail_line : List Str := ["greatest_tail", "_lines_through"]
theorem sc_tail_line : FnScope N_tail_line ["numbers", "mean", "at"] (defScope s_tail_line) := ⟨rfl, rfl, rfl, by decide +kernel, rfl, by decide +kernel, by decide +kernel⟩
theorem vi_tail_line : visC N_tail_line (defScope s_tail_line) [0, 1, 2, 3, 4] = true := by decide +kernel
theorem gl_tail_line : glC g_tail_line (defScope s_tail_line) = true := by decide +kernel
abbrev s__lines_through : Stmt := topS 32
abbrev N__lines_through : List Str := ["numbers", "at", "found", "high", "number", "other", "base", "slope"]
abbrev g__lines_through : List Str := ["enumerate", "Share", "int"]
theorem sc__lines_through : FnScope N__lines_through ["numbers", "at"] (defScope s__lines_through) := ⟨rfl, rfl, rfl, by decide +kernel, rfl, by decide +kernel, by decide +kernel⟩
theorem vi__lines_through : visC N__lines_through (defScope s__lines_through) [0, 1, 2, 3, 4, 5, 6, 7] = true := by decide +kernel
theorem gl__lines_through : glC g__lines_through (defScope s__lines_through) = true := by decide +kernel
abbrev s_is_line : Stmt := topS 31
abbrev N_is_line : List Str := ["numbers", "at", "line", "number"]
abbrev g_is_line : List Str := ["check_numbers", "any"]
theorem sc_is_line : FnScope N_is_line ["numbers", "at", "line"] (defScope s_is_line) := ⟨rfl, rfl, rfl, by decide +kernel, rfl, by decide +kernel, by decide +kernel⟩
theorem vi_is_line : visC N_is_line (defScope s_is_line) [0, 1, 2] = true := by decide +kernel
theorem gl_is_line : glC g_is_line (defScope s_is_line) = true := by decide +kernel
abbrev s__line_at : Stmt := topS 30
abbrev N__line_at : List Str := ["line", "place"]
abbrev g__line_at : List Str := []
theorem sc__line_at : FnScope N__line_at ["line", "place"] (defScope s__line_at) := ⟨rfl, rfl, rfl, by decide +kernel, rfl, by decide +kernel, by decide +kernel⟩
theorem vi__line_at : visC N__line_at (defScope s__line_at) [0, 1] = true := by decide +kernel
theorem gl__line_at : glC g__line_at (defScope s__line_at) = true := by decide +kernel
abbrev s__law_line_fits : Stmt := topS 50
abbrev N__law_line_fits : List Str := ["numbers", "at", "line", "number", "height"]
abbrev g__law_line_fits : List Str := []
theorem sc__law_line_fits : FnScope N__law_line_fits ["numbers", "at", "line"] (defScope s__law_line_fits) := ⟨rfl, rfl, rfl, by decide +kernel, rfl, by decide +kernel, by decide +kernel⟩
theorem vi__law_line_fits : visC N__law_line_fits (defScope s__law_line_fits) [0, 1, 2, 3, 4] = true := by decide +kernel
theorem gl__law_line_fits : glC g__law_line_fits (defScope s__law_line_fits) = true := by decide +kernel
abbrev s__law_lines_judged : Stmt := topS 52
abbrev N__law_lines_judged : List Str := ["stream", "numbers", "at", "line", "wide", "steps", "step", "less", "lines", "place", "first", "second", "asked", "part"]
abbrev g__law_lines_judged : List Str := ["_law_draw", "max", "_law_sum", "range", "len", "Share", "list", "_law_same", "is_line", "tuple", "_law_line_fits"]
theorem sc__law_lines_judged : FnScope N__law_lines_judged ["stream", "numbers", "at", "line"] (defScope s__law_lines_judged) := ⟨rfl, rfl, rfl, by decide +kernel, rfl, by decide +kernel, by decide +kernel⟩
theorem vi__law_lines_judged : visC N__law_lines_judged (defScope s__law_lines_judged) [0, 1, 2, 3, 4, 5, 6, 7, 8, 9, 10, 11, 12] = true := by decide +kernel
theorem gl__law_lines_judged : glC g__law_lines_judged (defScope s__law_lines_judged) = true := by decide +kernel
abbrev s_greatest_square : Stmt := topS 34
abbrev N_greatest_square : List Str := ["numbers", "mean", "low", "high"]
abbrev g_greatest_square : List Str := ["check_numbers", "Share", "Undefined"]
theorem sc_greatest_square : FnScope N_greatest_square ["numbers", "mean"] (defScope s_greatest_square) := ⟨rfl, rfl, rfl, by decide +kernel, rfl, by decide +kernel, by decide +kernel⟩
theorem vi_greatest_square : visC N_greatest_square (defScope s_greatest_square) [0, 1, 2, 3] = true := by decide +kernel
theorem gl_greatest_square : glC g_greatest_square (defScope s_greatest_square) = true := by decide +kernel
structure Txt (K : PySem.W.Frag) (mg : Str → Option Value) (cShare : Addr) : Prop where
  d_law : DefAt K mg "law" s_law
  d__law_holds : DefAt K mg "_law_holds" s__law_holds
  d__law_stream : DefAt K mg "_law_stream" s__law_stream
  d_Share_add : MethAt K cShare "__add__" "Share.__add__" s_Share_add
  d_Share_init : MethAt K cShare "__init__" "Share.__init__" s_Share_init
  d_greatest_divisor : DefAt K mg "greatest_divisor" s_greatest_divisor
  d_Share_eq : MethAt K cShare "__eq__" "Share.__eq__" s_Share_eq
  d_Share_mul : MethAt K cShare "__mul__" "Share.__mul__" s_Share_mul
  d_Share_sub : MethAt K cShare "__sub__" "Share.__sub__" s_Share_sub
  d__law_numbers : DefAt K mg "_law_numbers" s__law_numbers
  d__law_draw : DefAt K mg "_law_draw" s__law_draw
  d__law_mean : DefAt K mg "_law_mean" s__law_mean
  d__law_at : DefAt K mg "_law_at" s__law_at
  d__law_fits : DefAt K mg "_law_fits" s__law_fits
  d__law_tails : DefAt K mg "_law_tails" s__law_tails
  d__law_same : DefAt K mg "_law_same" s__law_same
  d__law_is_share : DefAt K mg "_law_is_share" s__law_is_share
  d__law_is_whole : DefAt K mg "_law_is_whole" s__law_is_whole
  d__law_gcd : DefAt K mg "_law_gcd" s__law_gcd
  d_greatest_tail : DefAt K mg "greatest_tail" s_greatest_tail
  d_tail_of : DefAt K mg "tail_of" s_tail_of
  d_check_spread : DefAt K mg "check_spread" s_check_spread
  d_check_numbers : DefAt K mg "check_numbers" s_check_numbers
  d_is_sequence : DefAt K mg "is_sequence" s_is_sequence
  d_is_integer : DefAt K mg "is_integer" s_is_integer
  d_are_parts : DefAt K mg "are_parts" s_are_parts
  d_share_from_zero : DefAt K mg "share_from_zero" s_share_from_zero
  d_sum_of : DefAt K mg "sum_of" s_sum_of
  d_greatest_spread : DefAt K mg "greatest_spread" s_greatest_spread
  d__spreads_on_two : DefAt K mg "_spreads_on_two" s__spreads_on_two
  d_Share_by : MethAt K cShare "by" "Share.by" s_Share_by
  d_greatest_at : DefAt K mg "greatest_at" s_greatest_at
  d_Share_is_below : MethAt K cShare "is_below" "Share.is_below" s_Share_is_below
  d_least_tail : DefAt K mg "least_tail" s_least_tail
  d_least_spread : DefAt K mg "least_spread" s_least_spread
  d__law_spread_fits : DefAt K mg "_law_spread_fits" s__law_spread_fits
  d__law_pair : DefAt K mg "_law_pair" s__law_pair
  d__law_like : DefAt K mg "_law_like" s__law_like
  d__law_sum : DefAt K mg "_law_sum" s__law_sum
  d__law_told_line : DefAt K mg "_law_told_line" s__law_told_line
  d_tail_line : DefAt K mg "tail_line" s_tail_line
  d__lines_through : DefAt K mg "_lines_through" s__lines_through
  d_is_line : DefAt K mg "is_line" s_is_line
  d__line_at : DefAt K mg "_line_at" s__line_at
  d__law_line_fits : DefAt K mg "_law_line_fits" s__law_line_fits
  d__law_lines_judged : DefAt K mg "_law_lines_judged" s__law_lines_judged
  d_greatest_square : DefAt K mg "greatest_square" s_greatest_square
  b_range : mg "range" = none
  b_len : mg "len" = none
  b_int : mg "int" = none
  b_abs : mg "abs" = none
  b_isinstance : mg "isinstance" = none
  b_sum : mg "sum" = none
  b_list : mg "list" = none
  b_tuple : mg "tuple" = none
  b_max : mg "max" = none
  b_str : mg "str" = none
  b_bool : mg "bool" = none
  b_zip : mg "zip" = none
  b_all : mg "all" = none
  b_enumerate : mg "enumerate" = none
  b_min : mg "min" = none
  b_any : mg "any" = none
  i_MOST_NUMBERS : ∃ t, mg "MOST_NUMBERS" = some (.int 8 t)
  i_BOUND : ∃ t, mg "BOUND" = some (.int 100000000000000000000 t)
  c_Share : mg "Share" = some (.ref cShare)
  k_Share : PySem.W.keepIn K (.ref cShare) = true
  pg_Share : PySem.W.plainGet K cShare Str.empty = true
  hd_Share : PySem.W.hasDictIn K cShare = true
  po_Share : PySem.W.plainOver K cShare = true
  sa_Share : PySem.W.findIn K (.ref cShare) "__setattr__" = some (some (.builtin "object.__setattr__"))
  mk_Share : PySem.W.makesIn K cShare = true
  ho_Share : DlN.hdOwn K cShare = true
  na_Share_over : NoAttr K cShare "over"
  na_Share_under : NoAttr K cShare "under"
  ha_Share : PySem.W.findIn K (.ref cShare) "__class__" = some (some (.builtin "object.__class__"))
  hm_Share : PySem.W.mroIn K cShare (.type "object") = some true
  kc_Share : PySem.W.kitOne K (.ref cShare) (.ref cShare) = some true
  hn : PySem.W.specialIn K (.builtin "object.__class__") "__get__" = some (some (.builtin "getset_descriptor.__get__"))
  ht : PySem.W.takesIn K (.builtin "object.__class__") = some true
theorem Txt.cls_Share {K : PySem.W.Frag} {mg : Str → Option Value} {cShare : Addr} (T : Txt K mg cShare) : ClsF K (wd K cShare) 0 := by
  refine ⟨⟨T.pg_Share, T.hd_Share, T.po_Share, T.sa_Share⟩, fun i f e => ?_, (by decide +kernel : (["over", "under"] : List Str).Nodup)⟩
  match i, e with
  | 0, e => cases e; exact T.na_Share_over
  | 1, e => cases e; exact T.na_Share_under
  | n + 2, e => cases e
theorem Txt.isf_Share {K : PySem.W.Frag} {mg : Str → Option Value} {cShare : Addr} (T : Txt K mg cShare) : IsF K (wd K cShare) 0 := ⟨⟨T.pg_Share, T.hd_Share, T.po_Share, T.sa_Share⟩, T.ha_Share, T.hn, T.ht, T.hm_Share⟩
/-! shares as rationals -/
abbrev shQ (q : Rat) : D := .ob 0 [.int q.num, .int (q.den : Nat)]
structure Sz (n : Nat) (q : Rat) : Prop where
  num : Bd n q.num
  den : q.den < 2 ^ n
theorem Sz.dn {n : Nat} {q : Rat} (h : Sz n q) : Bd n (q.den : Nat) := h.den
theorem Sz.mono {n m : Nat} {q : Rat} (h : Sz n q) (hn : n ≤ m) : Sz m q := ⟨h.num.mono hn, Nat.lt_of_lt_of_le h.den (Nat.pow_le_pow_right (by decide) hn)⟩
theorem div_bd {n : Nat} {a b : Int} (ha : Bd n a) (h : b ∣ a) : Bd n (a / b) := by
  unfold Bd at *
  rw [Int.natAbs_ediv_of_dvd h]
  exact Nat.lt_of_le_of_lt (Nat.div_le_self _ _) ha
theorem num_di {a b : Int} (hb : 0 < b) : (Rat.divInt a b).num = a / (Int.gcd a b : Int) := by
  rw [Rat.num_divInt, Int.sign_eq_one_of_pos hb, Int.one_mul, Int.gcd_comm]
theorem den_di {a b : Int} (hb : 0 < b) : ((Rat.divInt a b).den : Int) = b / (Int.gcd a b : Int) := by
  rw [Rat.den_divInt, if_neg (by omega), Int.gcd_comm, Int.natCast_ediv, Int.natAbs_of_nonneg (by omega)]
theorem sz_di {n : Nat} {a b : Int} (hb : 0 < b) (h1 : Bd n a) (h2 : Bd n b) : Sz n (Rat.divInt a b) := by
  refine ⟨by rw [num_di hb]; exact div_bd h1 (Int.gcd_dvd_left ..), ?_⟩
  have := div_bd h2 (Int.gcd_dvd_right a b)
  rw [← den_di hb] at this
  exact this
theorem add_di (q r : Rat) : q + r = Rat.divInt (q.num * r.den + r.num * q.den) (q.den * r.den) := by
  have e := Rat.divInt_add_divInt q.num r.num (d₁ := q.den) (d₂ := r.den) (by have := q.den_nz; omega) (by have := r.den_nz; omega)
  rw [Rat.num_divInt_den, Rat.num_divInt_den] at e; exact e
theorem sub_di (q r : Rat) : q - r = Rat.divInt (q.num * r.den - r.num * q.den) (q.den * r.den) := by
  have e := Rat.divInt_sub_divInt q.num r.num (d₁ := q.den) (d₂ := r.den) (by have := q.den_nz; omega) (by have := r.den_nz; omega)
  rw [Rat.num_divInt_den, Rat.num_divInt_den] at e; exact e
theorem mul_di (q r : Rat) : q * r = Rat.divInt (q.num * r.num) (q.den * r.den) := by
  have e := Rat.divInt_mul_divInt q.num r.num (d₁ := q.den) (d₂ := r.den)
  rw [Rat.num_divInt_den, Rat.num_divInt_den] at e; exact e
theorem den_pos (q : Rat) : 0 < (q.den : Int) := by have := q.den_pos; omega
theorem div_di (q r : Rat) : q / r = Rat.divInt (q.num * r.den) (q.den * r.num) := by
  rw [Rat.div_def, Rat.inv_def]
  have e := Rat.divInt_mul_divInt q.num r.den (d₁ := q.den) (d₂ := r.num)
  rw [Rat.num_divInt_den] at e; exact e
theorem Sz.add {n m : Nat} {q r : Rat} (a : Sz n q) (b : Sz m r) : Sz (n + m + 1) (q + r) := by
  rw [add_di]
  refine sz_di (Int.mul_pos (den_pos q) (den_pos r)) (((a.num.mul b.dn).add (b.num.mul a.dn)).mono (by omega)) ((a.dn.mul b.dn).mono (by omega))
theorem Sz.sub {n m : Nat} {q r : Rat} (a : Sz n q) (b : Sz m r) : Sz (n + m + 1) (q - r) := by
  rw [sub_di]
  refine sz_di (Int.mul_pos (den_pos q) (den_pos r)) (((a.num.mul b.dn).sub (b.num.mul a.dn)).mono (by omega)) ((a.dn.mul b.dn).mono (by omega))
theorem Sz.mul {n m : Nat} {q r : Rat} (a : Sz n q) (b : Sz m r) : Sz (n + m) (q * r) := by
  rw [mul_di]
  exact sz_di (Int.mul_pos (den_pos q) (den_pos r)) (a.num.mul b.num) (a.dn.mul b.dn)
theorem num_pos {r : Rat} (h : 0 < r) : 0 < r.num := by
  have := (Rat.lt_iff 0 r).mp h
  simpa using this
theorem Sz.div {n m : Nat} {q r : Rat} (a : Sz n q) (b : Sz m r) (h : 0 < r) : Sz (n + m) (q / r) := by
  rw [div_di]
  exact sz_di (Int.mul_pos (den_pos q) (num_pos h)) (a.num.mul b.dn) (a.dn.mul b.num)
theorem di_one (a : Int) : Rat.divInt a 1 = (a : Rat) := by rw [Rat.divInt_eq_div]; show (a : Rat) / ((1 : Int) : Rat) = a; rw [show ((1 : Int) : Rat) = 1 from rfl]; grind
theorem sz_int {n : Nat} {a : Int} (h : Bd n a) (hn : 1 ≤ n) : Sz n (a : Rat) := by
  rw [← di_one]
  exact sz_di (by decide) h (by unfold Bd; exact Nat.one_lt_two_pow (by omega))
def dsp_greatest_divisor : DSp := fun as M Ψ _ => ∃ a b : Int, as = [.d (.int a), .d (.int b)] ∧ (0 ≤ a ∧ 0 ≤ b) ∧ Ψ (.d (.int (Int.gcd a b))) M
def dsp_Share_init : DSp := fun as M Ψ _ => ∃ a b : Int, as = [.m 0, .d (.int a), .d (.int b)] ∧ M = [.o 0 []] ∧ (0 < b ∧ Bd 8990 b) ∧ Ψ (.d .non) [.o 0 [.int (Rat.divInt a b).num, .int ((Rat.divInt a b).den : Nat)]]
def dsp_Share_add : DSp := fun as M Ψ _ => ∃ q r : Rat, as = [.d (shQ q), .d (shQ r)] ∧ (Sz 4400 q ∧ Sz 4400 r) ∧ Ψ (.d (shQ (q + r))) M
def dsp_Share_sub : DSp := fun as M Ψ _ => ∃ q r : Rat, as = [.d (shQ q), .d (shQ r)] ∧ (Sz 4400 q ∧ Sz 4400 r) ∧ Ψ (.d (shQ (q - r))) M
def dsp_Share_mul : DSp := fun as M Ψ _ => ∃ q r : Rat, as = [.d (shQ q), .d (shQ r)] ∧ (Sz 4400 q ∧ Sz 4400 r) ∧ Ψ (.d (shQ (q * r))) M
def dsp_Share_by : DSp := fun as M Ψ _ => ∃ q r : Rat, as = [.d (shQ q), .d (shQ r)] ∧ (0 < r ∧ Sz 4400 q ∧ Sz 4400 r) ∧ Ψ (.d (shQ (q / r))) M
def dsp_Share_eq : DSp := fun as M Ψ _ => ∃ q r : Rat, as = [.d (shQ q), .d (shQ r)] ∧ Ψ (.d (.bl (decide (q = r)))) M
def dsp_Share_is_below : DSp := fun as M Ψ _ => ∃ q r : Rat, as = [.d (shQ q), .d (shQ r)] ∧ (Sz 400000 q ∧ Sz 400000 r) ∧ Ψ (.d (.bl (decide (q < r)))) M
theorem gcd_em {a b : Int} (h1 : 0 ≤ a) (h2 : 0 < b) : Int.gcd b (a % b) = Int.gcd a b := by
  obtain ⟨m, rfl⟩ := Int.eq_ofNat_of_zero_le h1
  obtain ⟨n, rfl⟩ := Int.eq_ofNat_of_zero_le (Int.le_of_lt h2)
  show Nat.gcd n (((m : Int) % (n : Int)).natAbs) = Nat.gcd m n
  rw [show ((m : Int) % (n : Int)).natAbs = m % n from by rw [← Int.natCast_emod]; rfl, Nat.gcd_comm m n, Nat.gcd_comm n (m % n), ← Nat.gcd_rec]
theorem gcd_abs {a b : Int} (hb : 0 < b) : Int.gcd (if a < 0 then -a else a) b = Int.gcd a b := by
  split
  · exact Int.neg_gcd ..
  · rfl
section
variable {C : Dl.Ctx} {ρ : Rho} {M : Mm} {Ψ : AV → Mm → Prop}
theorem nil_app {a : AV} (h : Ψ a M) : Ψ a (M ++ []) := by rw [List.append_nil]; exact h
theorem ca_gd {a b : Int} (hp : 0 ≤ a ∧ 0 ≤ b) (h : Ψ (.d (.int (Int.gcd a b))) M) : call0 C ρ dsp_greatest_divisor [.d (.int a), .d (.int b)] M Ψ := ⟨a, b, rfl, hp, nil_app h⟩
theorem ca_si {a b : Int} {X : Cx} {K : PySem.W.Frag} {c : Addr} {n : Nat} {T : XP} (hp : 0 < b ∧ Bd 8990 b) (h : Ψ (.d (shQ (Rat.divInt a b))) M) :
    callC ⟨X, wd K c, n, T⟩ ρ 0 dsp_Share_init [.d (.int a), .d (.int b)] M Ψ := ⟨a, b, rfl, rfl, hp, _, rfl, rfl, rfl, h⟩
theorem ca_sa {q r : Rat} (hp : Sz 4400 q ∧ Sz 4400 r) (h : Ψ (.d (shQ (q + r))) M) : callB dsp_Share_add [.d (shQ q), .d (shQ r)] M Ψ := ⟨q, r, rfl, hp, nil_app h⟩
theorem ca_ss {q r : Rat} (hp : Sz 4400 q ∧ Sz 4400 r) (h : Ψ (.d (shQ (q - r))) M) : callB dsp_Share_sub [.d (shQ q), .d (shQ r)] M Ψ := ⟨q, r, rfl, hp, nil_app h⟩
theorem ca_sm {q r : Rat} (hp : Sz 4400 q ∧ Sz 4400 r) (h : Ψ (.d (shQ (q * r))) M) : callB dsp_Share_mul [.d (shQ q), .d (shQ r)] M Ψ := ⟨q, r, rfl, hp, nil_app h⟩
theorem ca_sb {q r : Rat} (hp : 0 < r ∧ Sz 4400 q ∧ Sz 4400 r) (h : Ψ (.d (shQ (q / r))) M) : call0 C ρ dsp_Share_by [.d (shQ q), .d (shQ r)] M Ψ := ⟨q, r, rfl, hp, nil_app h⟩
theorem ca_sl {q r : Rat} (hp : Sz 400000 q ∧ Sz 400000 r) (h : Ψ (.d (.bl (decide (q < r)))) M) : call0 C ρ dsp_Share_is_below [.d (shQ q), .d (shQ r)] M Ψ := ⟨q, r, rfl, hp, nil_app h⟩
theorem ca_se {q r : Rat} (h : Ψ (.d (.bl (decide (q = r)))) M) : callE dsp_Share_eq [.d (shQ q), .d (shQ r)] M Ψ := ⟨q, r, rfl, rfl, h⟩
end
local macro_rules | `(tactic| fail "dl_u") => `(tactic| with_reducible refine Lw.ca_gd ?_ ?_)
local macro_rules | `(tactic| fail "dl_u") => `(tactic| with_reducible refine Lw.ca_si ?_ ?_)
local macro_rules | `(tactic| fail "dl_u") => `(tactic| with_reducible refine Lw.ca_sa ?_ ?_)
local macro_rules | `(tactic| fail "dl_u") => `(tactic| with_reducible refine Lw.ca_ss ?_ ?_)
local macro_rules | `(tactic| fail "dl_u") => `(tactic| with_reducible refine Lw.ca_sm ?_ ?_)
local macro_rules | `(tactic| fail "dl_u") => `(tactic| with_reducible refine Lw.ca_sb ?_ ?_)
local macro_rules | `(tactic| fail "dl_u") => `(tactic| with_reducible refine Lw.ca_sl ?_ ?_)
local macro_rules | `(tactic| fail "dl_u") => `(tactic| with_reducible refine Lw.ca_se ?_)
set_option maxHeartbeats 4000000 in
theorem fk_greatest_divisor {P : Program} {w : World} {K : PySem.W.Frag} {mg : Str → Option Value} {base : Heap} {cShare : Addr} (T : Txt K mg cShare) : Fk P w K mg base (wd K cShare) "greatest_divisor" ["a", "b"] 0 dsp_greatest_divisor 1 := by
  obtain ⟨f, fd, F, hm⟩ := T.d_greatest_divisor.ex
  refine ⟨f, fd, fn_D2 F sc_greatest_divisor vi_greatest_divisor gl_greatest_divisor rfl (fun as M Ψ E h => ?_) (fun X as M Ψ E ok own hX hM h => ?_), hm, F.kp, F.binds fun _ _ _ _ _ _ us hl => match us, hl with | [_, _], _ => rfl⟩
  · obtain ⟨a, b, rfl, hp, h⟩ := h <;> rfl
  have l0 : Lv X "a" 0 := ok.lv 0 rfl (by decide) rfl rfl
  have t0 : Ls X "a" 0 := ok.ls 0 rfl (by decide)
  have l1 : Lv X "b" 1 := ok.lv 1 rfl (by decide) rfl rfl
  have t1 : Ls X "b" 1 := ok.ls 1 rfl (by decide)
  have kShare := T.cls_Share
  have sShare : IsF X.K (wd K cShare) 0 := by rw [show X.K = K from ok.kE]; exact T.isf_Share
  have jShare : PySem.W.kitOne X.K (.ref cShare) (.ref cShare) = some true := by rw [show X.K = K from ok.kE]; exact T.kc_Share
  have qShare0 : ((wd K cShare).cf 0)[0]? = some ("over" : Str) := rfl
  have qShare1 : ((wd K cShare).cf 0)[1]? = some ("under" : Str) := rfl
  have calm := ok.calm
  have wk := ok.wk
  obtain ⟨a, b, rfl, hp, h⟩ := h
  obtain rfl : M = [] := List.eq_nil_of_length_eq_zero hM
  refine ws_rho (by fail "rho") ?_
  refine ws_cons (w1_while own (fun m ρ M => ∃ a' b' : Int, m = b'.toNat ∧ 0 ≤ a' ∧ 0 ≤ b' ∧ Int.gcd a' b' = Int.gcd a b ∧ ρ = [some (.d (.int a')), some (.d (.int b'))] ∧ M = []) _ ⟨a, b, rfl, hp.1, hp.2, rfl, rfl, rfl⟩ ?_)
  rintro m ρ' M' ⟨a', b', rfl, h1, h2, h3, rfl, rfl⟩
  fail "dls"
  · omega
  · rename_i hc
    have h4 := Int.emod_nonneg a' (Int.ne_of_gt hc)
    have h5 := Int.emod_lt_of_pos a' hc
    exact ⟨_, by omega, b', a' % b', rfl, h2, h4, by rw [← h3]; exact gcd_em h1 hc, rfl, rfl⟩
  · rename_i hc
    have : b' = 0 := by omega
    subst this
    have e : ((Int.gcd a b : Nat) : Int) = a' := by rw [← h3, Int.gcd_zero_right]; omega
    rw [e] at h; exact h
set_option maxHeartbeats 4000000 in
theorem fk_Share_init {P : Program} {w : World} {K : PySem.W.Frag} {mg : Str → Option Value} {base : Heap} {cShare : Addr} (T : Txt K mg cShare) : Ck P w K mg base (wd K cShare) "Share" 0 ["self", "over", "under"] dsp_Share_init 2 := by
  obtain ⟨f, fd, F, hm, hf⟩ := T.d_Share_init.ex
  refine ⟨f, fd, fn_D2 F sc_Share_init vi_Share_init gl_Share_init rfl (fun as M Ψ E h => ?_) (fun X as M Ψ E ok own hX hM h => ?_), T.c_Share, ⟨T.mk_Share, hm, hf, T.k_Share⟩, F.binds fun _ _ _ _ _ _ us hl => match us, hl with | [_, _, _], _ => rfl⟩
  · obtain ⟨a, b, rfl, rfl, hp, h⟩ := h <;> rfl
  have l0 : Lv X "self" 0 := ok.lv 0 rfl (by decide) rfl rfl
  have t0 : Ls X "self" 0 := ok.ls 0 rfl (by decide)
  have l1 : Lv X "over" 1 := ok.lv 1 rfl (by decide) rfl rfl
  have t1 : Ls X "over" 1 := ok.ls 1 rfl (by decide)
  have l2 : Lv X "under" 2 := ok.lv 2 rfl (by decide) rfl rfl
  have t2 : Ls X "under" 2 := ok.ls 2 rfl (by decide)
  have l3 : Lv X "divisor" 3 := ok.lv 3 rfl (by decide) rfl rfl
  have t3 : Ls X "divisor" 3 := ok.ls 3 rfl (by decide)
  have f1 := ok.fc 1 (x := "greatest_divisor") rfl (fk_greatest_divisor T) (by decide) rfl
  have b2 : Bk X "abs" "abs" := ok.bk 2 rfl T.b_abs rfl (by decide) rfl
  have kShare := T.cls_Share
  have sShare : IsF X.K (wd K cShare) 0 := by rw [show X.K = K from ok.kE]; exact T.isf_Share
  have jShare : PySem.W.kitOne X.K (.ref cShare) (.ref cShare) = some true := by rw [show X.K = K from ok.kE]; exact T.kc_Share
  have qShare0 : ((wd K cShare).cf 0)[0]? = some ("over" : Str) := rfl
  have qShare1 : ((wd K cShare).cf 0)[1]? = some ("under" : Str) := rfl
  have calm := ok.calm
  have wk := ok.wk
  obtain ⟨a, b, rfl, rfl, hp, h⟩ := h
  refine ws_rho (by fail "rho") ?_
  have eb : (if b < 0 then -b else b) = b := if_neg (by omega)
  have g0 : (0 : Int) < Int.gcd a b := by
    have := Int.gcd_pos_of_ne_zero_right a (b := b) (by omega); omega
  have g1 : (Int.gcd a b : Int) ≤ b := Int.le_of_dvd hp.1 (Int.gcd_dvd_right ..)
  have g2 : Bd 8990 (Int.gcd a b : Int) := by
    have := hp.2
    unfold Bd at *
    omega
  have ea : Int.gcd (if a < 0 then -a else a) b = Int.gcd a b := gcd_abs hp.1
  have dv : CDivX a (Int.gcd a b) := cdivX g0 g2 (by decide)
  have dv2 : CDivX b (Int.gcd a b) := cdivX g0 g2 (by decide)
  rw [num_di hp.1, den_di hp.1] at h
  fail "dls"
  all_goals try simp only [ea, eb] at *
  all_goals first | omega | exact ⟨by split <;> omega, by omega⟩ | exact dv | exact dv2 | exact h
set_option maxHeartbeats 4000000 in
theorem fk_Share_add {P : Program} {w : World} {K : PySem.W.Frag} {mg : Str → Option Value} {base : Heap} {cShare : Addr} (T : Txt K mg cShare) : Opk P w K mg base (wd K cShare) 0 (PySem.dunder Operator.Add.info.2) ["self", "other"] dsp_Share_add 4 := by
  obtain ⟨f, fd, F, hm, hf⟩ := T.d_Share_add.ex
  refine ⟨⟨f, fd, fn_D2 F sc_Share_add vi_Share_add gl_Share_add rfl (fun as M Ψ E h => ?_) (fun X as M Ψ E ok own hX hM h => ?_), (by rw [show PySem.dunder Operator.Add.info.2 = ("__add__" : Str) from by decide]; exact hm), hf, F.binds fun _ _ _ _ _ _ us hl => match us, hl with | [_, _], _ => rfl⟩, T.ho_Share⟩
  · obtain ⟨q, r, rfl, hp, h⟩ := h <;> rfl
  have l0 : Lv X "self" 0 := ok.lv 0 rfl (by decide) rfl rfl
  have t0 : Ls X "self" 0 := ok.ls 0 rfl (by decide)
  have l1 : Lv X "other" 1 := ok.lv 1 rfl (by decide) rfl rfl
  have t1 : Ls X "other" 1 := ok.ls 1 rfl (by decide)
  have f0 := ok.cc 0 (x := "Share") (c := 0) rfl (fk_Share_init T) (by decide) rfl
  have kShare := T.cls_Share
  have sShare : IsF X.K (wd K cShare) 0 := by rw [show X.K = K from ok.kE]; exact T.isf_Share
  have jShare : PySem.W.kitOne X.K (.ref cShare) (.ref cShare) = some true := by rw [show X.K = K from ok.kE]; exact T.kc_Share
  have qShare0 : ((wd K cShare).cf 0)[0]? = some ("over" : Str) := rfl
  have qShare1 : ((wd K cShare).cf 0)[1]? = some ("under" : Str) := rfl
  have calm := ok.calm
  have wk := ok.wk
  obtain ⟨q, r, rfl, hp, h⟩ := h
  obtain rfl : M = [] := List.eq_nil_of_length_eq_zero hM
  refine ws_rho (by fail "rho") ?_
  have b1 := cmulX hp.1.num hp.2.dn (by decide)
  have b2 := cmulX hp.2.num hp.1.dn (by decide)
  have b3 := cmulX hp.1.dn hp.2.dn (by decide)
  have b4 := hp.1.dn.mul hp.2.dn
  rw [add_di] at h
  fail "dls"
  all_goals first | exact b1 | exact b2 | exact b3 | exact ⟨Int.mul_pos (den_pos q) (den_pos r), b4.mono (by decide)⟩ | exact h
set_option maxHeartbeats 4000000 in
theorem fk_Share_sub {P : Program} {w : World} {K : PySem.W.Frag} {mg : Str → Option Value} {base : Heap} {cShare : Addr} (T : Txt K mg cShare) : Opk P w K mg base (wd K cShare) 0 (PySem.dunder Operator.Sub.info.2) ["self", "other"] dsp_Share_sub 4 := by
  obtain ⟨f, fd, F, hm, hf⟩ := T.d_Share_sub.ex
  refine ⟨⟨f, fd, fn_D2 F sc_Share_sub vi_Share_sub gl_Share_sub rfl (fun as M Ψ E h => ?_) (fun X as M Ψ E ok own hX hM h => ?_), (by rw [show PySem.dunder Operator.Sub.info.2 = ("__sub__" : Str) from by decide]; exact hm), hf, F.binds fun _ _ _ _ _ _ us hl => match us, hl with | [_, _], _ => rfl⟩, T.ho_Share⟩
  · obtain ⟨q, r, rfl, hp, h⟩ := h <;> rfl
  have l0 : Lv X "self" 0 := ok.lv 0 rfl (by decide) rfl rfl
  have t0 : Ls X "self" 0 := ok.ls 0 rfl (by decide)
  have l1 : Lv X "other" 1 := ok.lv 1 rfl (by decide) rfl rfl
  have t1 : Ls X "other" 1 := ok.ls 1 rfl (by decide)
  have f0 := ok.cc 0 (x := "Share") (c := 0) rfl (fk_Share_init T) (by decide) rfl
  have kShare := T.cls_Share
  have sShare : IsF X.K (wd K cShare) 0 := by rw [show X.K = K from ok.kE]; exact T.isf_Share
  have jShare : PySem.W.kitOne X.K (.ref cShare) (.ref cShare) = some true := by rw [show X.K = K from ok.kE]; exact T.kc_Share
  have qShare0 : ((wd K cShare).cf 0)[0]? = some ("over" : Str) := rfl
  have qShare1 : ((wd K cShare).cf 0)[1]? = some ("under" : Str) := rfl
  have calm := ok.calm
  have wk := ok.wk
  obtain ⟨q, r, rfl, hp, h⟩ := h
  obtain rfl : M = [] := List.eq_nil_of_length_eq_zero hM
  refine ws_rho (by fail "rho") ?_
  have b1 := cmulX hp.1.num hp.2.dn (by decide)
  have b2 := cmulX hp.2.num hp.1.dn (by decide)
  have b3 := cmulX hp.1.dn hp.2.dn (by decide)
  have b4 := hp.1.dn.mul hp.2.dn
  rw [sub_di] at h
  fail "dls"
  all_goals first | exact b1 | exact b2 | exact b3 | exact ⟨Int.mul_pos (den_pos q) (den_pos r), b4.mono (by decide)⟩ | exact h
set_option maxHeartbeats 4000000 in
theorem fk_Share_mul {P : Program} {w : World} {K : PySem.W.Frag} {mg : Str → Option Value} {base : Heap} {cShare : Addr} (T : Txt K mg cShare) : Opk P w K mg base (wd K cShare) 0 (PySem.dunder Operator.Mult.info.2) ["self", "other"] dsp_Share_mul 4 := by
  obtain ⟨f, fd, F, hm, hf⟩ := T.d_Share_mul.ex
  refine ⟨⟨f, fd, fn_D2 F sc_Share_mul vi_Share_mul gl_Share_mul rfl (fun as M Ψ E h => ?_) (fun X as M Ψ E ok own hX hM h => ?_), (by rw [show PySem.dunder Operator.Mult.info.2 = ("__mul__" : Str) from by decide]; exact hm), hf, F.binds fun _ _ _ _ _ _ us hl => match us, hl with | [_, _], _ => rfl⟩, T.ho_Share⟩
  · obtain ⟨q, r, rfl, hp, h⟩ := h <;> rfl
  have l0 : Lv X "self" 0 := ok.lv 0 rfl (by decide) rfl rfl
  have t0 : Ls X "self" 0 := ok.ls 0 rfl (by decide)
  have l1 : Lv X "other" 1 := ok.lv 1 rfl (by decide) rfl rfl
  have t1 : Ls X "other" 1 := ok.ls 1 rfl (by decide)
  have f0 := ok.cc 0 (x := "Share") (c := 0) rfl (fk_Share_init T) (by decide) rfl
  have kShare := T.cls_Share
  have sShare : IsF X.K (wd K cShare) 0 := by rw [show X.K = K from ok.kE]; exact T.isf_Share
  have jShare : PySem.W.kitOne X.K (.ref cShare) (.ref cShare) = some true := by rw [show X.K = K from ok.kE]; exact T.kc_Share
  have qShare0 : ((wd K cShare).cf 0)[0]? = some ("over" : Str) := rfl
  have qShare1 : ((wd K cShare).cf 0)[1]? = some ("under" : Str) := rfl
  have calm := ok.calm
  have wk := ok.wk
  obtain ⟨q, r, rfl, hp, h⟩ := h
  obtain rfl : M = [] := List.eq_nil_of_length_eq_zero hM
  refine ws_rho (by fail "rho") ?_
  have b1 := cmulX hp.1.num hp.2.num (by decide)
  have b3 := cmulX hp.1.dn hp.2.dn (by decide)
  have b4 := hp.1.dn.mul hp.2.dn
  rw [mul_di] at h
  fail "dls"
  all_goals first | exact b1 | exact b3 | exact ⟨Int.mul_pos (den_pos q) (den_pos r), b4.mono (by decide)⟩ | exact h
set_option maxHeartbeats 4000000 in
theorem fk_Share_by {P : Program} {w : World} {K : PySem.W.Frag} {mg : Str → Option Value} {base : Heap} {cShare : Addr} (T : Txt K mg cShare) : Mek P w K mg base (wd K cShare) 0 "by" ["self", "other"] dsp_Share_by 4 := by
  obtain ⟨f, fd, F, hm, hf⟩ := T.d_Share_by.ex
  refine ⟨⟨f, fd, fn_D2 F sc_Share_by vi_Share_by gl_Share_by rfl (fun as M Ψ E h => ?_) (fun X as M Ψ E ok own hX hM h => ?_), ⟨hm, hf, F.kp⟩, F.binds fun _ _ _ _ _ _ us hl => match us, hl with | [_, _], _ => rfl⟩⟩
  · obtain ⟨q, r, rfl, hp, h⟩ := h <;> rfl
  have l0 : Lv X "self" 0 := ok.lv 0 rfl (by decide) rfl rfl
  have t0 : Ls X "self" 0 := ok.ls 0 rfl (by decide)
  have l1 : Lv X "other" 1 := ok.lv 1 rfl (by decide) rfl rfl
  have t1 : Ls X "other" 1 := ok.ls 1 rfl (by decide)
  have f1 := ok.cc 1 (x := "Share") (c := 0) rfl (fk_Share_init T) (by decide) rfl
  have kShare := T.cls_Share
  have sShare : IsF X.K (wd K cShare) 0 := by rw [show X.K = K from ok.kE]; exact T.isf_Share
  have jShare : PySem.W.kitOne X.K (.ref cShare) (.ref cShare) = some true := by rw [show X.K = K from ok.kE]; exact T.kc_Share
  have qShare0 : ((wd K cShare).cf 0)[0]? = some ("over" : Str) := rfl
  have qShare1 : ((wd K cShare).cf 0)[1]? = some ("under" : Str) := rfl
  have calm := ok.calm
  have wk := ok.wk
  obtain ⟨q, r, rfl, hp, h⟩ := h
  obtain rfl : M = [] := List.eq_nil_of_length_eq_zero hM
  refine ws_rho (by fail "rho") ?_
  have hr := num_pos hp.1
  have b1 := cmulX hp.2.1.num hp.2.2.dn (by decide)
  have b3 := cmulX hp.2.1.dn hp.2.2.num (by decide)
  have b4 := hp.2.1.dn.mul hp.2.2.num
  rw [div_di] at h
  fail "dls"
  all_goals first | exact b1 | exact b3 | omega | exact ⟨Int.mul_pos (den_pos q) hr, b4.mono (by decide)⟩ | exact h
set_option maxHeartbeats 4000000 in
theorem fk_Share_eq {P : Program} {w : World} {K : PySem.W.Frag} {mg : Str → Option Value} {base : Heap} {cShare : Addr} (T : Txt K mg cShare) : Eqk P w K mg base (wd K cShare) 0 ["self", "other"] dsp_Share_eq 4 := by
  obtain ⟨f, fd, F, hm, hf⟩ := T.d_Share_eq.ex
  refine ⟨f, fd, fn_D2 F sc_Share_eq vi_Share_eq gl_Share_eq rfl (fun as M Ψ E h => ?_) (fun X as M Ψ E ok own hX hM h => ?_), hm, hf, F.binds fun _ _ _ _ _ _ us hl => match us, hl with | [_, _], _ => rfl⟩
  · obtain ⟨q, r, rfl, h⟩ := h <;> rfl
  have l0 : Lv X "self" 0 := ok.lv 0 rfl (by decide) rfl rfl
  have t0 : Ls X "self" 0 := ok.ls 0 rfl (by decide)
  have l1 : Lv X "other" 1 := ok.lv 1 rfl (by decide) rfl rfl
  have t1 : Ls X "other" 1 := ok.ls 1 rfl (by decide)
  have b0 : Bk X "isinstance" "isinstance" := ok.bk 0 rfl T.b_isinstance rfl (by decide) rfl
  have f1 := ok.cc 1 (x := "Share") (c := 0) rfl (fk_Share_init T) (by decide) rfl
  have kShare := T.cls_Share
  have sShare : IsF X.K (wd K cShare) 0 := by rw [show X.K = K from ok.kE]; exact T.isf_Share
  have jShare : PySem.W.kitOne X.K (.ref cShare) (.ref cShare) = some true := by rw [show X.K = K from ok.kE]; exact T.kc_Share
  have qShare0 : ((wd K cShare).cf 0)[0]? = some ("over" : Str) := rfl
  have qShare1 : ((wd K cShare).cf 0)[1]? = some ("under" : Str) := rfl
  have calm := ok.calm
  have wk := ok.wk
  obtain ⟨q, r, rfl, h⟩ := h
  obtain rfl : M = [] := List.eq_nil_of_length_eq_zero hM
  refine ws_rho (by fail "rho") ?_
  fail "dls"
  · rename_i hc
    rw [decide_eq_false (fun e => hc (by rw [e]))] at h; exact h
  · rename_i hc
    have e : (decide ((q.den : Int) = r.den)) = decide (q = r) := by
      by_cases z : (q.den : Int) = r.den
      · rw [decide_eq_true z, decide_eq_true (Rat.ext hc (by omega))]
      · rw [decide_eq_false z, decide_eq_false (fun e => z (by rw [e]))]
    rw [e]; exact h
set_option maxHeartbeats 4000000 in
theorem fk_Share_is_below {P : Program} {w : World} {K : PySem.W.Frag} {mg : Str → Option Value} {base : Heap} {cShare : Addr} (T : Txt K mg cShare) : Mek P w K mg base (wd K cShare) 0 "is_below" ["self", "other"] dsp_Share_is_below 1 := by
  obtain ⟨f, fd, F, hm, hf⟩ := T.d_Share_is_below.ex
  refine ⟨⟨f, fd, fn_D2 F sc_Share_is_below vi_Share_is_below gl_Share_is_below rfl (fun as M Ψ E h => ?_) (fun X as M Ψ E ok own hX hM h => ?_), ⟨hm, hf, F.kp⟩, F.binds fun _ _ _ _ _ _ us hl => match us, hl with | [_, _], _ => rfl⟩⟩
  · obtain ⟨q, r, rfl, hp, h⟩ := h <;> rfl
  have l0 : Lv X "self" 0 := ok.lv 0 rfl (by decide) rfl rfl
  have t0 : Ls X "self" 0 := ok.ls 0 rfl (by decide)
  have l1 : Lv X "other" 1 := ok.lv 1 rfl (by decide) rfl rfl
  have t1 : Ls X "other" 1 := ok.ls 1 rfl (by decide)
  have kShare := T.cls_Share
  have sShare : IsF X.K (wd K cShare) 0 := by rw [show X.K = K from ok.kE]; exact T.isf_Share
  have jShare : PySem.W.kitOne X.K (.ref cShare) (.ref cShare) = some true := by rw [show X.K = K from ok.kE]; exact T.kc_Share
  have qShare0 : ((wd K cShare).cf 0)[0]? = some ("over" : Str) := rfl
  have qShare1 : ((wd K cShare).cf 0)[1]? = some ("under" : Str) := rfl
  have calm := ok.calm
  have wk := ok.wk
  obtain ⟨q, r, rfl, hp, h⟩ := h
  obtain rfl : M = [] := List.eq_nil_of_length_eq_zero hM
  refine ws_rho (by fail "rho") ?_
  have b1 := cmulX hp.1.num hp.2.dn (by decide)
  have b2 := cmulX hp.2.num hp.1.dn (by decide)
  fail "dls"
  all_goals first | exact b1 | exact b2 | skip
  have e : (decide (q.num * (r.den : Int) < r.num * q.den)) = decide (q < r) := by rw [decide_eq_decide]; exact (Rat.lt_iff q r).symm
  rw [e]; exact h
/-! sequences, sums of shares, numbers and spreads on them -/
@[reducible] def sqD (t : Bool) (ds : List D) : D := match t with
  | true => .tup ds
  | false => .lst ds
theorem map_at {α : Type} {f : α → D} {xs : List α} {i : Nat} {d : D} (h : (xs.map f)[i]? = some d) : ∃ x, xs[i]? = some x ∧ d = f x := by
  rw [List.getElem?_map] at h
  cases q : xs[i]? with
  | none => rw [q] at h; cases h
  | some x => rw [q] at h; cases h; exact ⟨x, rfl, rfl⟩
open Classical in
noncomputable def gOf {α : Type} (f : α → D) (r : α → Option D) (d : D) : Option D := if h : ∃ x, f x = d then r h.choose else none
theorem gOf_at {α : Type} {f : α → D} {r : α → Option D} (inj : ∀ x y, f x = f y → x = y) (x : α) : gOf f r (f x) = r x := by
  have h : ∃ y, f y = f x := ⟨x, rfl⟩
  unfold gOf
  rw [dif_pos h, inj _ _ h.choose_spec]
theorem gOf_map {α : Type} {f : α → D} {r : α → Option D} (inj : ∀ x y, f x = f y → x = y) (xs : List α) : (xs.map f).filterMap (gOf f r) = xs.filterMap r := by
  rw [List.filterMap_map]
  congr 1
  funext x
  exact gOf_at inj x
theorem fm_some {α β : Type} {h : α → β} (xs : List α) : xs.filterMap (fun x => some (h x)) = xs.map h := by
  induction xs with
  | nil => rfl
  | cons x xs ih => simp only [List.filterMap_cons, List.map_cons, ih]
theorem shQ_inj : ∀ x y : Rat, shQ x = shQ y → x = y := by
  intro x y e
  injection e with _ e2
  injection e2 with e3 e4
  injection e4 with e5 e6
  injection e3 with e7
  injection e5 with e8
  exact Rat.ext e7 (by omega)
theorem map_inj {α β : Type} {f : α → β} (inj : ∀ x y, f x = f y → x = y) : ∀ xs ys : List α, xs.map f = ys.map f → xs = ys
  | [], [], _ => rfl
  | [], y :: ys, e => by simp at e
  | x :: xs, [], e => by simp at e
  | x :: xs, y :: ys, e => by
    simp only [List.map_cons, List.cons.injEq] at e
    rw [inj _ _ e.1, map_inj inj _ _ e.2]
theorem int_inj : ∀ x y : Int, D.int x = D.int y → x = y := by intro x y e; injection e
def qsum : List Rat → Rat
  | [] => 0
  | q :: qs => q + qsum qs
theorem qsum_app (xs : List Rat) (y : Rat) : qsum (xs ++ [y]) = qsum xs + y := by
  induction xs with
  | nil => simp only [List.nil_append, qsum]; grind
  | cons x xs ih => simp only [List.cons_append, qsum, ih]; grind
theorem qsum_take {qs : List Rat} {i : Nat} {q : Rat} (h : qs[i]? = some q) : qsum (qs.take (i + 1)) = qsum (qs.take i) + q := by
  rw [List.take_add_one, h]; exact qsum_app _ _
theorem sz_zero : Sz 1 0 := ⟨by unfold Bd; decide, by decide⟩
theorem sz_one : Sz 1 1 := ⟨by unfold Bd; decide, by decide⟩
theorem sz_sum {s : Nat} : ∀ {qs : List Rat}, (∀ q ∈ qs, Sz s q) → Sz (qs.length * (s + 1) + 1) (qsum qs)
  | [], _ => sz_zero.mono (by simp)
  | q :: qs, h => by
    have := (h q (by simp)).add (sz_sum (qs := qs) fun x hx => h x (by simp [hx]))
    exact this.mono (by simp only [List.length_cons, Nat.add_mul]; omega)
theorem qsum_nn : ∀ {qs : List Rat}, (∀ q ∈ qs, 0 ≤ q) → 0 ≤ qsum qs
  | [], _ => Rat.le_refl
  | q :: qs, h => by
    have h1 := h q (by simp)
    have h2 := qsum_nn (qs := qs) fun x hx => h x (by simp [hx])
    simp only [qsum]; grind
theorem mem_at {α : Type} {xs : List α} {i : Nat} {x : α} (h : xs[i]? = some x) : x ∈ xs := List.mem_of_getElem? h
theorem lt_at {α : Type} {xs : List α} {i : Nat} {x : α} (h : xs[i]? = some x) : i < xs.length := (List.getElem?_eq_some_iff.mp h).1
theorem at_lt {α : Type} {xs : List α} {i : Nat} (h : i < xs.length) : ∃ x, xs[i]? = some x := ⟨_, List.getElem?_eq_getElem h⟩
theorem di01 : Rat.divInt 0 1 = 0 := by decide +kernel
theorem di11 : Rat.divInt 1 1 = 1 := by decide +kernel
def dsp_is_sequence : DSp := fun as M Ψ _ => ∃ (t : Bool) (ds : List D), as = [.d (sqD t ds)] ∧ Ψ (.d (.bl true)) M
theorem ca_is0 {C : Dl.Ctx} {ρ : Rho} {M : Mm} {Ψ : AV → Mm → Prop} {ds : List D} (h : Ψ (.d (.bl true)) M) : call0 C ρ dsp_is_sequence [.d (.lst ds)] M Ψ := ⟨false, ds, rfl, (by show Ψ _ (M ++ []); rw [List.append_nil]; exact h)⟩
theorem ca_is1 {C : Dl.Ctx} {ρ : Rho} {M : Mm} {Ψ : AV → Mm → Prop} {ds : List D} (h : Ψ (.d (.bl true)) M) : call0 C ρ dsp_is_sequence [.d (.tup ds)] M Ψ := ⟨true, ds, rfl, (by show Ψ _ (M ++ []); rw [List.append_nil]; exact h)⟩
local macro_rules | `(tactic| fail "dl_u") => `(tactic| with_reducible refine Lw.ca_is0 ?_)
local macro_rules | `(tactic| fail "dl_u") => `(tactic| with_reducible refine Lw.ca_is1 ?_)
def dsp_share_from_zero : DSp := fun as M Ψ _ => ∃ (q : Rat), as = [.d (shQ q)] ∧ (0 ≤ q) ∧ Ψ (.d (.bl true)) M
theorem ca_sf {C : Dl.Ctx} {ρ : Rho} {M : Mm} {Ψ : AV → Mm → Prop} {q : Rat} (hp : 0 ≤ q) (h : Ψ (.d (.bl true)) M) : call0 C ρ dsp_share_from_zero [.d (shQ q)] M Ψ := ⟨q, rfl, hp, (by show Ψ _ (M ++ []); rw [List.append_nil]; exact h)⟩
local macro_rules | `(tactic| fail "dl_u") => `(tactic| with_reducible refine Lw.ca_sf ?_ ?_)
def dsp_sum_of : DSp := fun as M Ψ _ => ∃ (t : Bool) (qs : List Rat), as = [.d (sqD t (qs.map shQ))] ∧ (qs.length ≤ 8 ∧ ∀ q ∈ qs, Sz 500 q) ∧ Ψ (.d (shQ (qsum qs))) M
theorem ca_so0 {C : Dl.Ctx} {ρ : Rho} {M : Mm} {Ψ : AV → Mm → Prop} {qs : List Rat} (hp : qs.length ≤ 8 ∧ ∀ q ∈ qs, Sz 500 q) (h : Ψ (.d (shQ (qsum qs))) M) : call0 C ρ dsp_sum_of [.d (.lst (qs.map shQ))] M Ψ := ⟨false, qs, rfl, hp, (by show Ψ _ (M ++ []); rw [List.append_nil]; exact h)⟩
theorem ca_so1 {C : Dl.Ctx} {ρ : Rho} {M : Mm} {Ψ : AV → Mm → Prop} {qs : List Rat} (hp : qs.length ≤ 8 ∧ ∀ q ∈ qs, Sz 500 q) (h : Ψ (.d (shQ (qsum qs))) M) : call0 C ρ dsp_sum_of [.d (.tup (qs.map shQ))] M Ψ := ⟨true, qs, rfl, hp, (by show Ψ _ (M ++ []); rw [List.append_nil]; exact h)⟩
local macro_rules | `(tactic| fail "dl_u") => `(tactic| with_reducible refine Lw.ca_so0 ?_ ?_)
local macro_rules | `(tactic| fail "dl_u") => `(tactic| with_reducible refine Lw.ca_so1 ?_ ?_)
def dsp_are_parts : DSp := fun as M Ψ _ => ∃ (t : Bool) (qs : List Rat) (n : Int), as = [.d (sqD t (qs.map shQ)), .d (.int n)] ∧ ((qs.length ≤ 8 ∧ ∀ q ∈ qs, Sz 500 q) ∧ (qs.length : Int) = n ∧ (∀ q ∈ qs, 0 ≤ q) ∧ qsum qs = 1) ∧ Ψ (.d (.bl true)) M
theorem ca_ap0 {C : Dl.Ctx} {ρ : Rho} {M : Mm} {Ψ : AV → Mm → Prop} {qs : List Rat} {n : Int} (hp : (qs.length ≤ 8 ∧ ∀ q ∈ qs, Sz 500 q) ∧ (qs.length : Int) = n ∧ (∀ q ∈ qs, 0 ≤ q) ∧ qsum qs = 1) (h : Ψ (.d (.bl true)) M) : call0 C ρ dsp_are_parts [.d (.lst (qs.map shQ)), .d (.int n)] M Ψ := ⟨false, qs, n, rfl, hp, (by show Ψ _ (M ++ []); rw [List.append_nil]; exact h)⟩
theorem ca_ap1 {C : Dl.Ctx} {ρ : Rho} {M : Mm} {Ψ : AV → Mm → Prop} {qs : List Rat} {n : Int} (hp : (qs.length ≤ 8 ∧ ∀ q ∈ qs, Sz 500 q) ∧ (qs.length : Int) = n ∧ (∀ q ∈ qs, 0 ≤ q) ∧ qsum qs = 1) (h : Ψ (.d (.bl true)) M) : call0 C ρ dsp_are_parts [.d (.tup (qs.map shQ)), .d (.int n)] M Ψ := ⟨true, qs, n, rfl, hp, (by show Ψ _ (M ++ []); rw [List.append_nil]; exact h)⟩
local macro_rules | `(tactic| fail "dl_u") => `(tactic| with_reducible refine Lw.ca_ap0 ?_ ?_)
local macro_rules | `(tactic| fail "dl_u") => `(tactic| with_reducible refine Lw.ca_ap1 ?_ ?_)
def dsp_greatest_at : DSp := fun as M Ψ _ => ∃ (qs : List Rat), as = [.d (.lst (qs.map shQ))] ∧ (qs ≠ [] ∧ qs.length ≤ 1000 ∧ ∀ q ∈ qs, Sz 400000 q) ∧ ∀ (k : Nat) (q : Rat), (qs[k]? = some q ∧ ∀ r ∈ qs, r ≤ q) → Ψ (.d (.int k)) M
theorem ca_gat {C : Dl.Ctx} {ρ : Rho} {M : Mm} {Ψ : AV → Mm → Prop} {qs : List Rat} (hp : qs ≠ [] ∧ qs.length ≤ 1000 ∧ ∀ q ∈ qs, Sz 400000 q) (h : ∀ (k : Nat) (q : Rat), (qs[k]? = some q ∧ ∀ r ∈ qs, r ≤ q) → Ψ (.d (.int k)) M) : call0 C ρ dsp_greatest_at [.d (.lst (qs.map shQ))] M Ψ := ⟨qs, rfl, hp, fun k q hq => (by show Ψ _ (M ++ []); rw [List.append_nil]; exact h k q hq)⟩
local macro_rules | `(tactic| fail "dl_u") => `(tactic| with_reducible refine Lw.ca_gat ?_ fun k q hq => ?_)
set_option maxHeartbeats 4000000 in
theorem fk_is_sequence {P : Program} {w : World} {K : PySem.W.Frag} {mg : Str → Option Value} {base : Heap} {cShare : Addr} (T : Txt K mg cShare) : Fk P w K mg base (wd K cShare) "is_sequence" ["told"] 0 dsp_is_sequence 1 := by
  obtain ⟨f, fd, F, hm⟩ := T.d_is_sequence.ex
  refine ⟨f, fd, fn_D2 F sc_is_sequence vi_is_sequence gl_is_sequence rfl (fun as M Ψ E h => ?_) (fun X as M Ψ E ok own hX hM h => ?_), hm, F.kp, F.binds fun _ _ _ _ _ _ us hl => match us, hl with | [_], _ => rfl⟩
  · obtain ⟨t, ds, rfl, h⟩ := h <;> rfl
  have l0 : Lv X "told" 0 := ok.lv 0 rfl (by decide) rfl rfl
  have t0 : Ls X "told" 0 := ok.ls 0 rfl (by decide)
  have b0 : Bk X "isinstance" "isinstance" := ok.bk 0 rfl T.b_isinstance rfl (by decide) rfl
  have b1 : Bt X "tuple" "tuple" := ok.bt 1 rfl T.b_tuple rfl (by decide) rfl
  have b2 : Bt X "list" "list" := ok.bt 2 rfl T.b_list rfl (by decide) rfl
  have kShare := T.cls_Share
  have sShare : IsF X.K (wd K cShare) 0 := by rw [show X.K = K from ok.kE]; exact T.isf_Share
  have jShare : PySem.W.kitOne X.K (.ref cShare) (.ref cShare) = some true := by rw [show X.K = K from ok.kE]; exact T.kc_Share
  have qShare0 : ((wd K cShare).cf 0)[0]? = some ("over" : Str) := rfl
  have qShare1 : ((wd K cShare).cf 0)[1]? = some ("under" : Str) := rfl
  have calm := ok.calm
  have wk := ok.wk
  obtain ⟨t, ds, rfl, h⟩ := h
  obtain rfl : M = [] := List.eq_nil_of_length_eq_zero hM
  refine ws_rho (by fail "rho") ?_
  cases t
  all_goals (fail "dls"; exact h)
set_option maxHeartbeats 4000000 in
theorem fk_share_from_zero {P : Program} {w : World} {K : PySem.W.Frag} {mg : Str → Option Value} {base : Heap} {cShare : Addr} (T : Txt K mg cShare) : Fk P w K mg base (wd K cShare) "share_from_zero" ["told"] 0 dsp_share_from_zero 4 := by
  obtain ⟨f, fd, F, hm⟩ := T.d_share_from_zero.ex
  refine ⟨f, fd, fn_D2 F sc_share_from_zero vi_share_from_zero gl_share_from_zero rfl (fun as M Ψ E h => ?_) (fun X as M Ψ E ok own hX hM h => ?_), hm, F.kp, F.binds fun _ _ _ _ _ _ us hl => match us, hl with | [_], _ => rfl⟩
  · obtain ⟨q, rfl, hp, h⟩ := h <;> rfl
  have l0 : Lv X "told" 0 := ok.lv 0 rfl (by decide) rfl rfl
  have t0 : Ls X "told" 0 := ok.ls 0 rfl (by decide)
  have b0 : Bk X "isinstance" "isinstance" := ok.bk 0 rfl T.b_isinstance rfl (by decide) rfl
  have f1 := ok.cc 1 (x := "Share") (c := 0) rfl (fk_Share_init T) (by decide) rfl
  have kShare := T.cls_Share
  have sShare : IsF X.K (wd K cShare) 0 := by rw [show X.K = K from ok.kE]; exact T.isf_Share
  have jShare : PySem.W.kitOne X.K (.ref cShare) (.ref cShare) = some true := by rw [show X.K = K from ok.kE]; exact T.kc_Share
  have qShare0 : ((wd K cShare).cf 0)[0]? = some ("over" : Str) := rfl
  have qShare1 : ((wd K cShare).cf 0)[1]? = some ("under" : Str) := rfl
  have calm := ok.calm
  have wk := ok.wk
  obtain ⟨q, rfl, hp, h⟩ := h
  obtain rfl : M = [] := List.eq_nil_of_length_eq_zero hM
  refine ws_rho (by fail "rho") ?_
  have := Rat.num_nonneg.mpr hp
  fail "dls"
  all_goals try rw [decide_eq_true this] at *
  all_goals exact h
theorem bd_one {n : Nat} (h : 1 ≤ n) : Bd n 1 := by unfold Bd; exact Nat.one_lt_two_pow (by omega)
set_option maxHeartbeats 4000000 in
theorem fk_sum_of {P : Program} {w : World} {K : PySem.W.Frag} {mg : Str → Option Value} {base : Heap} {cShare : Addr} (T : Txt K mg cShare) : Fk P w K mg base (wd K cShare) "sum_of" ["shares"] 0 dsp_sum_of 5 := by
  obtain ⟨f, fd, F, hm⟩ := T.d_sum_of.ex
  refine ⟨f, fd, fn_D2 F sc_sum_of vi_sum_of gl_sum_of rfl (fun as M Ψ E h => ?_) (fun X as M Ψ E ok own hX hM h => ?_), hm, F.kp, F.binds fun _ _ _ _ _ _ us hl => match us, hl with | [_], _ => rfl⟩
  · obtain ⟨t, qs, rfl, hp, h⟩ := h <;> rfl
  have l0 : Lv X "shares" 0 := ok.lv 0 rfl (by decide) rfl rfl
  have t0 : Ls X "shares" 0 := ok.ls 0 rfl (by decide)
  have l1 : Lv X "total" 1 := ok.lv 1 rfl (by decide) rfl rfl
  have t1 : Ls X "total" 1 := ok.ls 1 rfl (by decide)
  have l2 : Lv X "share" 2 := ok.lv 2 rfl (by decide) rfl rfl
  have t2 : Ls X "share" 2 := ok.ls 2 rfl (by decide)
  have f0 := ok.cc 0 (x := "Share") (c := 0) rfl (fk_Share_init T) (by decide) rfl
  have kShare := T.cls_Share
  have sShare : IsF X.K (wd K cShare) 0 := by rw [show X.K = K from ok.kE]; exact T.isf_Share
  have jShare : PySem.W.kitOne X.K (.ref cShare) (.ref cShare) = some true := by rw [show X.K = K from ok.kE]; exact T.kc_Share
  have qShare0 : ((wd K cShare).cf 0)[0]? = some ("over" : Str) := rfl
  have qShare1 : ((wd K cShare).cf 0)[1]? = some ("under" : Str) := rfl
  have e_Share_add := fk_Share_add (P := P) (w := w) (base := base) T
  have calm := ok.calm
  have wk := ok.wk
  obtain ⟨t, qs, rfl, hp, h⟩ := h
  obtain rfl : M = [] := List.eq_nil_of_length_eq_zero hM
  refine ws_rho (by fail "rho") ?_
  have e0 : qsum ([] : List Rat) = 0 := rfl
  have h8 := hp.1
  cases t
  all_goals
    fail "dls"
    · exact ⟨by decide, bd_one (by decide)⟩
    rw [di01]
    refine w1_for ok own ?_
    fail "dls"
    refine ⟨fun i ρ M => ∃ x, ρ = [_, some (.d (shQ (qsum (qs.take i)))), x] ∧ M = [], ⟨_, rfl, rfl⟩, ?_, ?_⟩
    · rintro i d ρ' M' hi hd ⟨x, rfl, rfl⟩
      obtain ⟨q, hq, rfl⟩ := map_at hd
      have hz := (sz_sum (s := 500) (qs := qs.take i) fun x hx => hp.2 x (List.mem_of_mem_take hx)).mono (m := 4400) (by simp; omega)
      have hz2 := (hp.2 q (mem_at hq)).mono (m := 4400) (by decide)
      fail "dls"
      · exact ⟨hz, hz2⟩
      · rw [← qsum_take hq]
        exact ⟨_, rfl, rfl⟩
    · rintro ρ' M' ⟨x, rfl, rfl⟩
      rw [List.length_map, List.take_length]
      fail "dls"
      exact h
theorem enD_at {ds : List D} {i : Nat} {d : D} (h : (enD ds)[i]? = some d) : ∃ x, ds[i]? = some x ∧ d = .tw [.int (i : Nat), x] := by
  have hi : i < ds.length := by have := lt_at h; rwa [enD_len] at this
  obtain ⟨x, hx⟩ := at_lt hi
  have e := enD_get hx
  rw [h] at e
  exact ⟨x, hx, Option.some.inj e⟩
theorem atI_n {ds : List D} {n : Nat} {d : D} (h : ds[n]? = some d) : atI ds (n : Int) = some d := by
  have := lt_at h
  unfold atI ixN
  rw [if_pos (by omega), if_pos (by omega)]
  simpa using h
set_option maxHeartbeats 4000000 in
theorem fk_greatest_at {P : Program} {w : World} {K : PySem.W.Frag} {mg : Str → Option Value} {base : Heap} {cShare : Addr} (T : Txt K mg cShare) : Fk P w K mg base (wd K cShare) "greatest_at" ["shares"] 0 dsp_greatest_at 2 := by
  obtain ⟨f, fd, F, hm⟩ := T.d_greatest_at.ex
  refine ⟨f, fd, fn_D2 F sc_greatest_at vi_greatest_at gl_greatest_at rfl (fun as M Ψ E h => ?_) (fun X as M Ψ E ok own hX hM h => ?_), hm, F.kp, F.binds fun _ _ _ _ _ _ us hl => match us, hl with | [_], _ => rfl⟩
  · obtain ⟨qs, rfl, hp, h⟩ := h <;> rfl
  have l0 : Lv X "shares" 0 := ok.lv 0 rfl (by decide) rfl rfl
  have t0 : Ls X "shares" 0 := ok.ls 0 rfl (by decide)
  have l1 : Lv X "best" 1 := ok.lv 1 rfl (by decide) rfl rfl
  have t1 : Ls X "best" 1 := ok.ls 1 rfl (by decide)
  have l2 : Lv X "at" 2 := ok.lv 2 rfl (by decide) rfl rfl
  have t2 : Ls X "at" 2 := ok.ls 2 rfl (by decide)
  have l3 : Lv X "share" 3 := ok.lv 3 rfl (by decide) rfl rfl
  have t3 : Ls X "share" 3 := ok.ls 3 rfl (by decide)
  have b0 : Bt X "enumerate" "enumerate" := ok.bt 0 rfl T.b_enumerate rfl (by decide) rfl
  have e0 : (g_greatest_at)[0]? = some ("enumerate" : Str) := rfl
  have m0 : mg "enumerate" = none := T.b_enumerate
  have kShare := T.cls_Share
  have sShare : IsF X.K (wd K cShare) 0 := by rw [show X.K = K from ok.kE]; exact T.isf_Share
  have jShare : PySem.W.kitOne X.K (.ref cShare) (.ref cShare) = some true := by rw [show X.K = K from ok.kE]; exact T.kc_Share
  have qShare0 : ((wd K cShare).cf 0)[0]? = some ("over" : Str) := rfl
  have qShare1 : ((wd K cShare).cf 0)[1]? = some ("under" : Str) := rfl
  have e_Share_is_below := ok.mc (fk_Share_is_below (P := P) (w := w) (base := base) T) (by decide) T.cls_Share (by show ¬ ("is_below" : Str) ∈ (["over", "under"] : List Str); decide)
  have calm := ok.calm
  have wk := ok.wk
  obtain ⟨qs, rfl, hp, h⟩ := h
  obtain rfl : M = [] := List.eq_nil_of_length_eq_zero hM
  refine ws_rho (by fail "rho") ?_
  fail "dls"
  refine w1_for ok own ?_
  fail "dls"
  obtain ⟨h1, h2, h3⟩ := hp
  refine ⟨fun i ρ M => ∃ (k : Nat) (q : Rat) (x y : Option AV), ρ = [some (.d (.lst (qs.map shQ))), some (.d (.int k)), x, y] ∧ M = [] ∧ qs[k]? = some q ∧ ∀ j r, j < i → qs[j]? = some r → r ≤ q, ?_, ?_, ?_⟩
  · obtain ⟨q, hq⟩ := at_lt (xs := qs) (i := 0) (List.length_pos_iff.mpr h1)
    exact ⟨0, q, _, _, rfl, rfl, hq, fun j r hj => absurd hj (by omega)⟩
  · rintro i d ρ' M' hi hd ⟨k, q, x, y, rfl, rfl, hk, hb⟩
    obtain ⟨d, hd2, rfl⟩ := enD_at hd
    obtain ⟨r, hr, rfl⟩ := map_at hd2
    have z1 := h3 r (mem_at hr)
    have z2 := h3 q (mem_at hk)
    have hk2 : (qs.map shQ)[k]? = some (shQ q) := by rw [List.getElem?_map, hk]; rfl
    fail "dls"
    refine wi_seq (by fail "as") rfl (atI_n hk2) ?_
    fail "dls"
    · exact ⟨z2, z1⟩
    · rename_i hc
      refine ⟨i, r, _, _, rfl, rfl, hr, fun j x hj hx => ?_⟩
      by_cases e : j = i
      · subst e; rw [hr] at hx; cases hx; exact Rat.le_refl
      · exact Rat.le_trans (hb j x (by omega) hx) (Rat.le_of_lt hc)
    · rename_i hc
      refine ⟨k, q, _, _, rfl, rfl, hk, fun j x hj hx => ?_⟩
      by_cases e : j = i
      · subst e; rw [hr] at hx; cases hx; exact Rat.not_lt.mp hc
      · exact hb j x (by omega) hx
  · rintro ρ' M' ⟨k, q, x, y, rfl, rfl, hk, hb⟩
    fail "dls"
    refine h k q ⟨hk, fun r hr => ?_⟩
    obtain ⟨j, hj⟩ := List.mem_iff_getElem?.mp hr
    exact hb j r (by have := lt_at hj; rw [enD_len, List.length_map]; exact this) hj
set_option maxHeartbeats 4000000 in
theorem fk_are_parts {P : Program} {w : World} {K : PySem.W.Frag} {mg : Str → Option Value} {base : Heap} {cShare : Addr} (T : Txt K mg cShare) : Fk P w K mg base (wd K cShare) "are_parts" ["told", "many"] 0 dsp_are_parts 6 := by
  obtain ⟨f, fd, F, hm⟩ := T.d_are_parts.ex
  refine ⟨f, fd, fn_D2 F sc_are_parts vi_are_parts gl_are_parts rfl (fun as M Ψ E h => ?_) (fun X as M Ψ E ok own hX hM h => ?_), hm, F.kp, F.binds fun _ _ _ _ _ _ us hl => match us, hl with | [_, _], _ => rfl⟩
  · obtain ⟨t, qs, n, rfl, hp, h⟩ := h <;> rfl
  have l0 : Lv X "told" 0 := ok.lv 0 rfl (by decide) rfl rfl
  have t0 : Ls X "told" 0 := ok.ls 0 rfl (by decide)
  have l1 : Lv X "many" 1 := ok.lv 1 rfl (by decide) rfl rfl
  have t1 : Ls X "many" 1 := ok.ls 1 rfl (by decide)
  have c2 : (N_are_parts)[2]? = some ("part" : Str) := rfl
  have fx0 := ok.fx (x := "share_from_zero") (fk_share_from_zero T) (by decide) rfl
  have f0 := ok.fc 0 (x := "is_sequence") rfl (fk_is_sequence T) (by decide) rfl
  have b1 : Bk X "len" "len" := ok.bk 1 rfl T.b_len rfl (by decide) rfl
  have b2 : Bk X "all" "all" := ok.bk 2 rfl T.b_all rfl (by decide) rfl
  have f3 := ok.fc 3 (x := "sum_of") rfl (fk_sum_of T) (by decide) rfl
  have f4 := ok.cc 4 (x := "Share") (c := 0) rfl (fk_Share_init T) (by decide) rfl
  have kShare := T.cls_Share
  have sShare : IsF X.K (wd K cShare) 0 := by rw [show X.K = K from ok.kE]; exact T.isf_Share
  have jShare : PySem.W.kitOne X.K (.ref cShare) (.ref cShare) = some true := by rw [show X.K = K from ok.kE]; exact T.kc_Share
  have qShare0 : ((wd K cShare).cf 0)[0]? = some ("over" : Str) := rfl
  have qShare1 : ((wd K cShare).cf 0)[1]? = some ("under" : Str) := rfl
  have e_Share_eq := fk_Share_eq (P := P) (w := w) (base := base) T
  have calm := ok.calm
  have wk := ok.wk
  obtain ⟨t, qs, n, rfl, hp, h⟩ := h
  obtain rfl : M = [] := List.eq_nil_of_length_eq_zero hM
  refine ws_rho (by fail "rho") ?_
  obtain ⟨h8, hn, h0, h1⟩ := hp
  have hl : (qs.map shQ).length = qs.length := by simp
  cases t
  all_goals
    fail "dls"
    refine we_lcO [("part", 2)] [2] (by fail "ok") hX (by decide +kernel) ?_
    fail "dls"
    refine ⟨by omega, fun _ => some (.bl true), ?_, ?_⟩
    · intro j d hd
      obtain ⟨q, hq, rfl⟩ := map_at hd
      have := h0 q (mem_at hq)
      fail "dls"
      · exact this
      · rfl
    fail "dls"
    refine wc_all1 (by fail "as") (by fail "as") (by rfl) (fm_all fun d _ => .inl rfl) ?_
    fail "dls"
    · exact h8
    · exact ⟨by decide, bd_one (by decide)⟩
    · rw [di11, decide_eq_true h1]
      exact h
abbrev tI (ns : List Int) : D := .tup (ns.map .int)
structure Nums (ns : List Int) : Prop where
  lo : 2 ≤ ns.length
  hi : ns.length ≤ 8
  asc : ns.Pairwise (· < ·)
  bd : ∀ x ∈ ns, -(10 ^ 20) < x ∧ x < 10 ^ 20
/-- the tail of a spread -/
def tl : List Int → List Rat → Int → Rat
  | x :: xs, p :: ps, t => (if t ≤ x then p else 0) + tl xs ps t
  | _, _, _ => 0
/-- the mean of a spread -/
def mn : List Int → List Rat → Rat
  | x :: xs, p :: ps => (x : Rat) * p + mn xs ps
  | _, _ => 0
structure Spr (ns : List Int) (ps : List Rat) : Prop where
  len : ps.length = ns.length
  nn : ∀ p ∈ ps, 0 ≤ p
  sum : qsum ps = 1
  sz : ∀ p ∈ ps, Sz 400 p
def dsp_is_integer : DSp := fun as M Ψ _ => ∃ (a : Int), as = [.d (.int a)] ∧ Ψ (.d (.bl true)) M
theorem ca_ii {C : Dl.Ctx} {ρ : Rho} {M : Mm} {Ψ : AV → Mm → Prop} {a : Int} (h : Ψ (.d (.bl true)) M) : call0 C ρ dsp_is_integer [.d (.int a)] M Ψ := ⟨a, rfl, (by show Ψ _ (M ++ []); rw [List.append_nil]; exact h)⟩
local macro_rules | `(tactic| fail "dl_u") => `(tactic| with_reducible refine Lw.ca_ii ?_)
def dsp_check_numbers : DSp := fun as M Ψ _ => ∃ (t : Bool) (ns : List Int), as = [.d (sqD t (ns.map .int))] ∧ (Nums ns) ∧ Ψ (.d .non) M
theorem ca_cn0 {C : Dl.Ctx} {ρ : Rho} {M : Mm} {Ψ : AV → Mm → Prop} {ns : List Int} (hp : Nums ns) (h : Ψ (.d .non) M) : call0 C ρ dsp_check_numbers [.d (.lst (ns.map .int))] M Ψ := ⟨false, ns, rfl, hp, (by show Ψ _ (M ++ []); rw [List.append_nil]; exact h)⟩
theorem ca_cn1 {C : Dl.Ctx} {ρ : Rho} {M : Mm} {Ψ : AV → Mm → Prop} {ns : List Int} (hp : Nums ns) (h : Ψ (.d .non) M) : call0 C ρ dsp_check_numbers [.d (.tup (ns.map .int))] M Ψ := ⟨true, ns, rfl, hp, (by show Ψ _ (M ++ []); rw [List.append_nil]; exact h)⟩
local macro_rules | `(tactic| fail "dl_u") => `(tactic| with_reducible refine Lw.ca_cn0 ?_ ?_)
local macro_rules | `(tactic| fail "dl_u") => `(tactic| with_reducible refine Lw.ca_cn1 ?_ ?_)
def dsp_check_spread : DSp := fun as M Ψ _ => ∃ (t : Bool) (u : Bool) (ns : List Int) (ps : List Rat), as = [.d (sqD t (ns.map .int)), .d (sqD u (ps.map shQ))] ∧ (Nums ns ∧ Spr ns ps) ∧ Ψ (.d .non) M
theorem ca_cs00 {C : Dl.Ctx} {ρ : Rho} {M : Mm} {Ψ : AV → Mm → Prop} {ns : List Int} {ps : List Rat} (hp : Nums ns ∧ Spr ns ps) (h : Ψ (.d .non) M) : call0 C ρ dsp_check_spread [.d (.lst (ns.map .int)), .d (.lst (ps.map shQ))] M Ψ := ⟨false, false, ns, ps, rfl, hp, (by show Ψ _ (M ++ []); rw [List.append_nil]; exact h)⟩
theorem ca_cs01 {C : Dl.Ctx} {ρ : Rho} {M : Mm} {Ψ : AV → Mm → Prop} {ns : List Int} {ps : List Rat} (hp : Nums ns ∧ Spr ns ps) (h : Ψ (.d .non) M) : call0 C ρ dsp_check_spread [.d (.lst (ns.map .int)), .d (.tup (ps.map shQ))] M Ψ := ⟨false, true, ns, ps, rfl, hp, (by show Ψ _ (M ++ []); rw [List.append_nil]; exact h)⟩
theorem ca_cs10 {C : Dl.Ctx} {ρ : Rho} {M : Mm} {Ψ : AV → Mm → Prop} {ns : List Int} {ps : List Rat} (hp : Nums ns ∧ Spr ns ps) (h : Ψ (.d .non) M) : call0 C ρ dsp_check_spread [.d (.tup (ns.map .int)), .d (.lst (ps.map shQ))] M Ψ := ⟨true, false, ns, ps, rfl, hp, (by show Ψ _ (M ++ []); rw [List.append_nil]; exact h)⟩
theorem ca_cs11 {C : Dl.Ctx} {ρ : Rho} {M : Mm} {Ψ : AV → Mm → Prop} {ns : List Int} {ps : List Rat} (hp : Nums ns ∧ Spr ns ps) (h : Ψ (.d .non) M) : call0 C ρ dsp_check_spread [.d (.tup (ns.map .int)), .d (.tup (ps.map shQ))] M Ψ := ⟨true, true, ns, ps, rfl, hp, (by show Ψ _ (M ++ []); rw [List.append_nil]; exact h)⟩
local macro_rules | `(tactic| fail "dl_u") => `(tactic| with_reducible refine Lw.ca_cs00 ?_ ?_)
local macro_rules | `(tactic| fail "dl_u") => `(tactic| with_reducible refine Lw.ca_cs01 ?_ ?_)
local macro_rules | `(tactic| fail "dl_u") => `(tactic| with_reducible refine Lw.ca_cs10 ?_ ?_)
local macro_rules | `(tactic| fail "dl_u") => `(tactic| with_reducible refine Lw.ca_cs11 ?_ ?_)
def dsp_tail_of : DSp := fun as M Ψ _ => ∃ (t : Bool) (u : Bool) (ns : List Int) (ps : List Rat) (a : Int), as = [.d (sqD t (ns.map .int)), .d (sqD u (ps.map shQ)), .d (.int a)] ∧ (Nums ns ∧ Spr ns ps) ∧ Ψ (.d (shQ (tl ns ps a))) M
theorem ca_to00 {C : Dl.Ctx} {ρ : Rho} {M : Mm} {Ψ : AV → Mm → Prop} {ns : List Int} {ps : List Rat} {a : Int} (hp : Nums ns ∧ Spr ns ps) (h : Ψ (.d (shQ (tl ns ps a))) M) : call0 C ρ dsp_tail_of [.d (.lst (ns.map .int)), .d (.lst (ps.map shQ)), .d (.int a)] M Ψ := ⟨false, false, ns, ps, a, rfl, hp, (by show Ψ _ (M ++ []); rw [List.append_nil]; exact h)⟩
theorem ca_to01 {C : Dl.Ctx} {ρ : Rho} {M : Mm} {Ψ : AV → Mm → Prop} {ns : List Int} {ps : List Rat} {a : Int} (hp : Nums ns ∧ Spr ns ps) (h : Ψ (.d (shQ (tl ns ps a))) M) : call0 C ρ dsp_tail_of [.d (.lst (ns.map .int)), .d (.tup (ps.map shQ)), .d (.int a)] M Ψ := ⟨false, true, ns, ps, a, rfl, hp, (by show Ψ _ (M ++ []); rw [List.append_nil]; exact h)⟩
theorem ca_to10 {C : Dl.Ctx} {ρ : Rho} {M : Mm} {Ψ : AV → Mm → Prop} {ns : List Int} {ps : List Rat} {a : Int} (hp : Nums ns ∧ Spr ns ps) (h : Ψ (.d (shQ (tl ns ps a))) M) : call0 C ρ dsp_tail_of [.d (.tup (ns.map .int)), .d (.lst (ps.map shQ)), .d (.int a)] M Ψ := ⟨true, false, ns, ps, a, rfl, hp, (by show Ψ _ (M ++ []); rw [List.append_nil]; exact h)⟩
theorem ca_to11 {C : Dl.Ctx} {ρ : Rho} {M : Mm} {Ψ : AV → Mm → Prop} {ns : List Int} {ps : List Rat} {a : Int} (hp : Nums ns ∧ Spr ns ps) (h : Ψ (.d (shQ (tl ns ps a))) M) : call0 C ρ dsp_tail_of [.d (.tup (ns.map .int)), .d (.tup (ps.map shQ)), .d (.int a)] M Ψ := ⟨true, true, ns, ps, a, rfl, hp, (by show Ψ _ (M ++ []); rw [List.append_nil]; exact h)⟩
local macro_rules | `(tactic| fail "dl_u") => `(tactic| with_reducible refine Lw.ca_to00 ?_ ?_)
local macro_rules | `(tactic| fail "dl_u") => `(tactic| with_reducible refine Lw.ca_to01 ?_ ?_)
local macro_rules | `(tactic| fail "dl_u") => `(tactic| with_reducible refine Lw.ca_to10 ?_ ?_)
local macro_rules | `(tactic| fail "dl_u") => `(tactic| with_reducible refine Lw.ca_to11 ?_ ?_)
set_option maxHeartbeats 4000000 in
theorem fk_is_integer {P : Program} {w : World} {K : PySem.W.Frag} {mg : Str → Option Value} {base : Heap} {cShare : Addr} (T : Txt K mg cShare) : Fk P w K mg base (wd K cShare) "is_integer" ["told"] 0 dsp_is_integer 1 := by
  obtain ⟨f, fd, F, hm⟩ := T.d_is_integer.ex
  refine ⟨f, fd, fn_D2 F sc_is_integer vi_is_integer gl_is_integer rfl (fun as M Ψ E h => ?_) (fun X as M Ψ E ok own hX hM h => ?_), hm, F.kp, F.binds fun _ _ _ _ _ _ us hl => match us, hl with | [_], _ => rfl⟩
  · obtain ⟨a, rfl, h⟩ := h <;> rfl
  have l0 : Lv X "told" 0 := ok.lv 0 rfl (by decide) rfl rfl
  have t0 : Ls X "told" 0 := ok.ls 0 rfl (by decide)
  have b0 : Bk X "isinstance" "isinstance" := ok.bk 0 rfl T.b_isinstance rfl (by decide) rfl
  have b1 : Bt X "int" "int" := ok.bt 1 rfl T.b_int rfl (by decide) rfl
  have b2 : Bt X "bool" "bool" := ok.bt 2 rfl T.b_bool rfl (by decide) rfl
  have kShare := T.cls_Share
  have sShare : IsF X.K (wd K cShare) 0 := by rw [show X.K = K from ok.kE]; exact T.isf_Share
  have jShare : PySem.W.kitOne X.K (.ref cShare) (.ref cShare) = some true := by rw [show X.K = K from ok.kE]; exact T.kc_Share
  have qShare0 : ((wd K cShare).cf 0)[0]? = some ("over" : Str) := rfl
  have qShare1 : ((wd K cShare).cf 0)[1]? = some ("under" : Str) := rfl
  have calm := ok.calm
  have wk := ok.wk
  obtain ⟨a, rfl, h⟩ := h
  obtain rfl : M = [] := List.eq_nil_of_length_eq_zero hM
  refine ws_rho (by fail "rho") ?_
  fail "dls"
  exact h
theorem cut_from {α : Type} (ds : List α) (n : Nat) : cutA ds (some (n : Int)) none = ds.drop n := by
  unfold cutA
  rw [HT.sIx_none, HT.sIx_nat]
  by_cases h : n ≤ ds.length
  · rw [Nat.min_eq_left h, List.take_of_length_le (by simp)]
  · rw [Nat.min_eq_right (by omega), List.drop_of_length_le (Nat.le_refl _), List.drop_of_length_le (by omega)]; simp
theorem cut_to {α : Type} (ds : List α) (n : Nat) : cutA ds none (some (n : Int)) = ds.take n := by
  unfold cutA
  rw [HT.sIx_none, HT.sIx_nat, List.drop_zero, Nat.sub_zero]
  by_cases h : n ≤ ds.length
  · rw [Nat.min_eq_left h]
  · rw [Nat.min_eq_right (by omega), List.take_of_length_le (by omega), List.take_of_length_le (by omega)]
theorem cut1 (ds : List D) : cutA ds (some 1) none = ds.drop 1 := cut_from ds 1
theorem asc_zip {ns : List Int} (h : ns.Pairwise (· < ·)) {j : Nat} {d : D} (hd : (((ns.map D.int).zip (cutA (ns.map D.int) (some 1) none)).map fun p => D.tup [p.1, p.2])[j]? = some d) :
    ∃ x y : Int, d = .tup [.int x, .int y] ∧ True ∧ x < y := by
  rw [cut1] at hd
  obtain ⟨⟨u, v⟩, h1, rfl⟩ := map_at hd
  obtain ⟨e1, e2⟩ := List.getElem?_zip_eq_some.mp h1
  obtain ⟨x, hx, rfl⟩ := map_at e1
  rw [List.getElem?_drop] at e2
  obtain ⟨y, hy, rfl⟩ := map_at e2
  refine ⟨x, y, rfl, trivial, ?_⟩
  obtain ⟨l1, g1⟩ := List.getElem?_eq_some_iff.mp hx
  obtain ⟨l2, g2⟩ := List.getElem?_eq_some_iff.mp hy
  rw [← g1, ← g2]
  exact List.pairwise_iff_getElem.mp h _ _ l1 l2 (by omega)
theorem abs_lt {x b : Int} (h : -b < x ∧ x < b) : (if x < 0 then -x else x) < b := by split <;> omega
set_option maxHeartbeats 4000000 in
theorem fk_check_numbers {P : Program} {w : World} {K : PySem.W.Frag} {mg : Str → Option Value} {base : Heap} {cShare : Addr} (T : Txt K mg cShare) : Fk P w K mg base (wd K cShare) "check_numbers" ["numbers"] 0 dsp_check_numbers 2 := by
  obtain ⟨f, fd, F, hm⟩ := T.d_check_numbers.ex
  refine ⟨f, fd, fn_D2 F sc_check_numbers vi_check_numbers gl_check_numbers rfl (fun as M Ψ E h => ?_) (fun X as M Ψ E ok own hX hM h => ?_), hm, F.kp, F.binds fun _ _ _ _ _ _ us hl => match us, hl with | [_], _ => rfl⟩
  · obtain ⟨t, ns, rfl, hp, h⟩ := h <;> rfl
  have l0 : Lv X "numbers" 0 := ok.lv 0 rfl (by decide) rfl rfl
  have t0 : Ls X "numbers" 0 := ok.ls 0 rfl (by decide)
  have c1 : (N_check_numbers)[1]? = some ("number" : Str) := rfl
  have c2 : (N_check_numbers)[2]? = some ("other" : Str) := rfl
  have fx0 := ok.fx (x := "is_integer") (fk_is_integer T) (by decide) rfl
  have bx1 : Bx X "abs" "abs" := ok.bx T.b_abs rfl (by decide) rfl
  have ix2 := ok.ix (x := "BOUND") T.i_BOUND rfl
  have f0 := ok.fc 0 (x := "is_sequence") rfl (fk_is_sequence T) (by decide) rfl
  have b1 : Bk X "len" "len" := ok.bk 1 rfl T.b_len rfl (by decide) rfl
  have i2 := ok.gi 2 (x := "MOST_NUMBERS") rfl T.i_MOST_NUMBERS rfl
  have b4 : Bk X "all" "all" := ok.bk 4 rfl T.b_all rfl (by decide) rfl
  have b5 : Bt X "zip" "zip" := ok.bt 5 rfl T.b_zip rfl (by decide) rfl
  have e5 : (g_check_numbers)[5]? = some ("zip" : Str) := rfl
  have m5 : mg "zip" = none := T.b_zip
  have kShare := T.cls_Share
  have sShare : IsF X.K (wd K cShare) 0 := by rw [show X.K = K from ok.kE]; exact T.isf_Share
  have jShare : PySem.W.kitOne X.K (.ref cShare) (.ref cShare) = some true := by rw [show X.K = K from ok.kE]; exact T.kc_Share
  have qShare0 : ((wd K cShare).cf 0)[0]? = some ("over" : Str) := rfl
  have qShare1 : ((wd K cShare).cf 0)[1]? = some ("under" : Str) := rfl
  have calm := ok.calm
  have wk := ok.wk
  obtain ⟨t, ns, rfl, hp, h⟩ := h
  obtain rfl : M = [] := List.eq_nil_of_length_eq_zero hM
  refine ws_rho (by fail "rho") ?_
  have hm : (ns.map D.int).length = ns.length := by simp
  have n1 := hp.lo
  have n2 := hp.hi
  cases t
  all_goals
    fail "dls"
    refine we_lcO [("number", 1)] [1] (by fail "ok") hX (by decide +kernel) ?_
    fail "dls"
    refine ⟨by omega, fun _ => some (.bl true), ?_, ?_⟩
    · intro j d hd
      obtain ⟨x, hx, rfl⟩ := map_at hd
      have z := hp.bd x (mem_at hx)
      fail "dls"
      exact congrArg some (congrArg D.bl (decide_eq_true (abs_lt z)).symm)
    fail "dls"
    refine wc_all1 (by fail "as") (by fail "as") (by rfl) (fm_all fun d _ => .inl rfl) ?_
    fail "dls"
    refine we_lcO [("number", 1), ("other", 2)] [1, 2] (by fail "ok") hX (by decide +kernel) ?_
    fail "dls"
    refine ⟨?_, fun _ => some (.bl true), ?_, ?_⟩
    · simp; omega
    · intro j d hd
      obtain ⟨x, y, e, hd, hlt⟩ := asc_zip hp.asc hd
      subst e
      fail "dls"
      exact congrArg some (congrArg D.bl (decide_eq_true hlt).symm)
    fail "dls"
    refine wc_all1 (by fail "as") (by fail "as") (by rfl) (fm_all fun d _ => .inl rfl) ?_
    fail "dls"
    all_goals exact h
set_option maxHeartbeats 4000000 in
theorem fk_check_spread {P : Program} {w : World} {K : PySem.W.Frag} {mg : Str → Option Value} {base : Heap} {cShare : Addr} (T : Txt K mg cShare) : Fk P w K mg base (wd K cShare) "check_spread" ["numbers", "spread"] 0 dsp_check_spread 7 := by
  obtain ⟨f, fd, F, hm⟩ := T.d_check_spread.ex
  refine ⟨f, fd, fn_D2 F sc_check_spread vi_check_spread gl_check_spread rfl (fun as M Ψ E h => ?_) (fun X as M Ψ E ok own hX hM h => ?_), hm, F.kp, F.binds fun _ _ _ _ _ _ us hl => match us, hl with | [_, _], _ => rfl⟩
  · obtain ⟨t, u, ns, ps, rfl, hp, h⟩ := h <;> rfl
  have l0 : Lv X "numbers" 0 := ok.lv 0 rfl (by decide) rfl rfl
  have t0 : Ls X "numbers" 0 := ok.ls 0 rfl (by decide)
  have l1 : Lv X "spread" 1 := ok.lv 1 rfl (by decide) rfl rfl
  have t1 : Ls X "spread" 1 := ok.ls 1 rfl (by decide)
  have f0 := ok.fc 0 (x := "check_numbers") rfl (fk_check_numbers T) (by decide) rfl
  have f1 := ok.fc 1 (x := "are_parts") rfl (fk_are_parts T) (by decide) rfl
  have b2 : Bk X "len" "len" := ok.bk 2 rfl T.b_len rfl (by decide) rfl
  have kShare := T.cls_Share
  have sShare : IsF X.K (wd K cShare) 0 := by rw [show X.K = K from ok.kE]; exact T.isf_Share
  have jShare : PySem.W.kitOne X.K (.ref cShare) (.ref cShare) = some true := by rw [show X.K = K from ok.kE]; exact T.kc_Share
  have qShare0 : ((wd K cShare).cf 0)[0]? = some ("over" : Str) := rfl
  have qShare1 : ((wd K cShare).cf 0)[1]? = some ("under" : Str) := rfl
  have calm := ok.calm
  have wk := ok.wk
  obtain ⟨t, u, ns, ps, rfl, hp, h⟩ := h
  obtain rfl : M = [] := List.eq_nil_of_length_eq_zero hM
  refine ws_rho (by fail "rho") ?_
  have hm : (ns.map D.int).length = ns.length := by simp
  have h8 := hp.1.hi
  have hl := hp.2.len
  cases t
  all_goals cases u
  all_goals
    fail "dls"
    · exact hp.1
    · exact ⟨⟨by omega, fun q hq => (hp.2.sz q hq).mono (by decide)⟩, by omega, hp.2.nn, hp.2.sum⟩
    · exact h
theorem is_inj : ∀ x y : Int × Rat, D.tup [.int x.1, shQ x.2] = D.tup [.int y.1, shQ y.2] → x = y := by
  rintro ⟨a, b⟩ ⟨c, d⟩ e
  injection e with e
  injection e with e1 e2
  injection e2 with e3 e4
  cases int_inj _ _ e1
  cases shQ_inj _ _ e3
  rfl
theorem zip_is (ns : List Int) (ps : List Rat) : (((ns.map D.int).zip (ps.map shQ)).map fun p => D.tup [p.1, p.2]) = (ns.zip ps).map fun p => D.tup [.int p.1, shQ p.2] := by
  rw [List.zip_map, List.map_map]; rfl
theorem tl_sum : ∀ (ns : List Int) (ps : List Rat) (a : Int), qsum ((ns.zip ps).filterMap fun p => if a ≤ p.1 then some p.2 else none) = tl ns ps a
  | [], _, _ => by simp [tl, qsum]
  | _ :: _, [], _ => by simp [tl, qsum]
  | x :: xs, p :: ps, a => by
    have ih := tl_sum xs ps a
    simp only [List.zip_cons_cons, List.filterMap_cons, tl]
    split
    · rename_i h; split at h
      · cases h
      · rw [ih, if_neg (by assumption)]; grind
    · rename_i y h; split at h
      · cases h; rw [if_pos (by assumption)]; simp only [qsum, ih]
      · cases h
set_option maxHeartbeats 4000000 in
theorem fk_tail_of {P : Program} {w : World} {K : PySem.W.Frag} {mg : Str → Option Value} {base : Heap} {cShare : Addr} (T : Txt K mg cShare) : Fk P w K mg base (wd K cShare) "tail_of" ["numbers", "spread", "at"] 0 dsp_tail_of 8 := by
  obtain ⟨f, fd, F, hm⟩ := T.d_tail_of.ex
  refine ⟨f, fd, fn_D2 F sc_tail_of vi_tail_of gl_tail_of rfl (fun as M Ψ E h => ?_) (fun X as M Ψ E ok own hX hM h => ?_), hm, F.kp, F.binds fun _ _ _ _ _ _ us hl => match us, hl with | [_, _, _], _ => rfl⟩
  · obtain ⟨t, u, ns, ps, a, rfl, hp, h⟩ := h <;> rfl
  have l0 : Lv X "numbers" 0 := ok.lv 0 rfl (by decide) rfl rfl
  have t0 : Ls X "numbers" 0 := ok.ls 0 rfl (by decide)
  have l1 : Lv X "spread" 1 := ok.lv 1 rfl (by decide) rfl rfl
  have t1 : Ls X "spread" 1 := ok.ls 1 rfl (by decide)
  have l2 : Lv X "at" 2 := ok.lv 2 rfl (by decide) rfl rfl
  have t2 : Ls X "at" 2 := ok.ls 2 rfl (by decide)
  have c3 : (N_tail_of)[3]? = some ("number" : Str) := rfl
  have c4 : (N_tail_of)[4]? = some ("share" : Str) := rfl
  have f0 := ok.fc 0 (x := "check_spread") rfl (fk_check_spread T) (by decide) rfl
  have f1 := ok.fc 1 (x := "sum_of") rfl (fk_sum_of T) (by decide) rfl
  have b2 : Bt X "zip" "zip" := ok.bt 2 rfl T.b_zip rfl (by decide) rfl
  have e2 : (g_tail_of)[2]? = some ("zip" : Str) := rfl
  have m2 : mg "zip" = none := T.b_zip
  have kShare := T.cls_Share
  have sShare : IsF X.K (wd K cShare) 0 := by rw [show X.K = K from ok.kE]; exact T.isf_Share
  have jShare : PySem.W.kitOne X.K (.ref cShare) (.ref cShare) = some true := by rw [show X.K = K from ok.kE]; exact T.kc_Share
  have qShare0 : ((wd K cShare).cf 0)[0]? = some ("over" : Str) := rfl
  have qShare1 : ((wd K cShare).cf 0)[1]? = some ("under" : Str) := rfl
  have calm := ok.calm
  have wk := ok.wk
  obtain ⟨t, u, ns, ps, a, rfl, hp, h⟩ := h
  obtain rfl : M = [] := List.eq_nil_of_length_eq_zero hM
  refine ws_rho (by fail "rho") ?_
  have hm : (ns.map D.int).length = ns.length := by simp
  have h8 := hp.1.hi
  have hl := hp.2.len
  cases t
  all_goals cases u
  all_goals
    fail "dls"
    · exact hp
    refine we_lcO [("number", 3), ("share", 4)] [3, 4] (by fail "ok") hX (by decide +kernel) ?_
    fail "dls"
    rw [zip_is]
    refine ⟨?_, gOf (fun p : Int × Rat => D.tup [.int p.1, shQ p.2]) (fun p => if a ≤ p.1 then some (shQ p.2) else none), ?_, ?_⟩
    · simp; omega
    · intro j d hd
      obtain ⟨⟨x, q⟩, hx, rfl⟩ := map_at hd
      rw [gOf_at is_inj]
      fail "dls"
      · rename_i hc _ _
        exact if_pos hc
      · rename_i hc
        exact if_neg hc
    rw [gOf_map is_inj]
    have e : (ns.zip ps).filterMap (fun p => if a ≤ p.1 then some (shQ p.2) else none) = ((ns.zip ps).filterMap fun p => if a ≤ p.1 then some p.2 else none).map shQ := by
      rw [List.map_filterMap]
      congr 1
      funext p
      split <;> rfl
    rw [e]
    fail "dls"
    · refine ⟨?_, fun q hq => ?_⟩
      · have := List.length_filterMap_le (fun p : Int × Rat => if a ≤ p.1 then some p.2 else none) (ns.zip ps)
        rw [List.length_zip] at this
        omega
      · obtain ⟨p, hp1, hp2⟩ := List.mem_filterMap.mp hq
        split at hp2
        · cases hp2; exact (hp.2.sz _ (List.of_mem_zip hp1).2).mono (by decide)
        · cases hp2
    · rw [tl_sum]
      exact h
/-! spreads on two numbers -/
abbrev z0 : Rat := Rat.divInt 0 1
def pv (m : Rat) (x y : Int) : Rat := (m - Rat.divInt x 1) / Rat.divInt (y - x) 1
def rv (m : Rat) (x y : Int) : Rat := Rat.divInt 1 1 - pv m x y
def sp2 (n a b : Nat) (p r : Rat) : List Rat := ((List.replicate n z0).set a r).set b p
structure Pair (ns : List Int) (m : Rat) (a b : Nat) (x y : Int) : Prop where
  lt : a < b
  ax : ns[a]? = some x
  bx : ns[b]? = some y
  p0 : 0 ≤ pv m x y
  r0 : 0 ≤ rv m x y
def On2 (ns : List Int) (m : Rat) (sp : List Rat) : Prop := ∃ a b x y, Pair ns m a b x y ∧ sp = sp2 ns.length a b (pv m x y) (rv m x y)
def val (m : Rat) (t x y : Int) : Rat := (if t ≤ x then rv m x y else 0) + (if t ≤ y then pv m x y else 0)
theorem z0_eq : z0 = 0 := di01
theorem one_eq : Rat.divInt 1 1 = 1 := di11
theorem tl_set : ∀ {ns : List Int} {ps : List Rat} {i : Nat} {x : Int} {p q : Rat} (t : Int), ns[i]? = some x → ps[i]? = some p → tl ns (ps.set i q) t = tl ns ps t + (if t ≤ x then q - p else 0)
  | x :: xs, p :: ps, 0, _, _, q, t, h1, h2 => by
    simp at h1 h2; subst h1; subst h2
    simp only [List.set_cons_zero, tl]
    split <;> grind
  | x :: xs, p :: ps, i + 1, _, _, q, t, h1, h2 => by
    simp only [List.getElem?_cons_succ] at h1 h2
    simp only [List.set_cons_succ, tl, tl_set (ns := xs) (ps := ps) (q := q) t h1 h2]
    grind
theorem mn_set : ∀ {ns : List Int} {ps : List Rat} {i : Nat} {x : Int} {p q : Rat}, ns[i]? = some x → ps[i]? = some p → mn ns (ps.set i q) = mn ns ps + x * (q - p)
  | x :: xs, p :: ps, 0, _, _, q, h1, h2 => by
    simp at h1 h2; subst h1; subst h2
    simp only [List.set_cons_zero, mn]
    grind
  | x :: xs, p :: ps, i + 1, _, _, q, h1, h2 => by
    simp only [List.getElem?_cons_succ] at h1 h2
    simp only [List.set_cons_succ, mn, mn_set (ns := xs) (ps := ps) (q := q) h1 h2]
    grind
theorem qsum_set : ∀ {ps : List Rat} {i : Nat} {p q : Rat}, ps[i]? = some p → qsum (ps.set i q) = qsum ps + (q - p)
  | p :: ps, 0, _, q, h2 => by
    simp at h2; subst h2
    simp only [List.set_cons_zero, qsum]
    grind
  | p :: ps, i + 1, _, q, h2 => by
    simp only [List.getElem?_cons_succ] at h2
    simp only [List.set_cons_succ, qsum, qsum_set (ps := ps) (q := q) h2]
    grind
theorem tl_rep : ∀ (ns : List Int) (n : Nat) (t : Int), tl ns (List.replicate n z0) t = 0
  | [], _, _ => by simp [tl]
  | x :: xs, 0, t => by simp [tl]
  | x :: xs, n + 1, t => by rw [List.replicate_succ, tl, tl_rep xs n t, z0_eq]; grind
theorem mn_rep : ∀ (ns : List Int) (n : Nat), mn ns (List.replicate n z0) = 0
  | [], _ => by simp [mn]
  | x :: xs, 0 => by simp [mn]
  | x :: xs, n + 1 => by rw [List.replicate_succ, mn, mn_rep xs n, z0_eq]; grind
theorem qsum_rep : ∀ (n : Nat), qsum (List.replicate n z0) = 0
  | 0 => rfl
  | n + 1 => by rw [List.replicate_succ, qsum, qsum_rep n, z0_eq]; grind
section
variable {ns : List Int} {m : Rat} {a b : Nat} {x y : Int}
theorem rep_at {n i : Nat} (h : i < n) : (List.replicate n z0)[i]? = some z0 := by simp [h]
theorem rep_at2 {n i j : Nat} {r : Rat} (h : i < n) (hj : j ≠ i) : ((List.replicate n z0).set j r)[i]? = some z0 := by
  rw [List.getElem?_set_ne hj]; exact rep_at h
theorem Pair.tl (h : Pair ns m a b x y) (t : Int) : tl ns (sp2 ns.length a b (pv m x y) (rv m x y)) t = val m t x y := by
  have l1 := lt_at h.ax
  have l2 := lt_at h.bx
  have l3 := h.lt
  unfold sp2 val
  rw [tl_set t h.bx (rep_at2 l2 (by omega)), tl_set t h.ax (rep_at l1), tl_rep, z0_eq]
  split <;> split <;> grind
theorem Pair.sum (h : Pair ns m a b x y) : qsum (sp2 ns.length a b (pv m x y) (rv m x y)) = 1 := by
  have l1 := lt_at h.ax
  have l2 := lt_at h.bx
  have l3 := h.lt
  unfold sp2
  rw [qsum_set (rep_at2 l2 (by omega)), qsum_set (rep_at l1), qsum_rep, z0_eq]
  unfold rv
  rw [one_eq]
  grind
theorem Pair.lt2 (h : Pair ns m a b x y) (hn : Nums ns) : x < y := by
  obtain ⟨l1, g1⟩ := List.getElem?_eq_some_iff.mp h.ax
  obtain ⟨l2, g2⟩ := List.getElem?_eq_some_iff.mp h.bx
  rw [← g1, ← g2]
  exact List.pairwise_iff_getElem.mp hn.asc _ _ l1 l2 h.lt
theorem cast_lt {x y : Int} (h : x < y) : (x : Rat) < (y : Rat) := Rat.intCast_lt_intCast.mpr h
theorem cast_le {x y : Int} (h : x ≤ y) : (x : Rat) ≤ (y : Rat) := Rat.intCast_le_intCast.mpr h
theorem pv_mul (h : x < y) : pv m x y * ((y : Rat) - x) = m - x := by
  unfold pv
  have := cast_lt h
  rw [di_one, di_one, Rat.intCast_sub]
  grind
theorem Pair.mean (h : Pair ns m a b x y) (hn : Nums ns) : mn ns (sp2 ns.length a b (pv m x y) (rv m x y)) = m := by
  have l1 := lt_at h.ax
  have l2 := lt_at h.bx
  have l3 := h.lt
  have e := pv_mul (m := m) (h.lt2 hn)
  unfold sp2
  rw [mn_set h.bx (rep_at2 l2 (by omega)), mn_set h.ax (rep_at l1), mn_rep, z0_eq]
  unfold rv
  rw [one_eq]
  grind
theorem Nums.bd67 (hn : Nums ns) (hx : x ∈ ns) : Bd 67 x := by
  have := hn.bd x hx
  unfold Bd
  omega
theorem bd_sub67 (hx : Bd 67 x) (hy : Bd 67 y) : Bd 68 (y - x) := (hy.sub hx).mono (by decide)
theorem sz_pv (hm : Sz 80 m) (hx : Bd 67 x) (hy : Bd 67 y) (h : x < y) : Sz 216 (pv m x y) := by
  unfold pv
  have h1 : Sz 67 (Rat.divInt x 1) := by rw [di_one]; exact sz_int hx (by decide)
  have h2 : Sz 68 (Rat.divInt (y - x) 1) := by rw [di_one]; exact sz_int (bd_sub67 hx hy) (by decide)
  refine ((hm.sub h1).div h2 ?_).mono (by decide)
  rw [di_one]
  have : (0 : Int) < y - x := by omega
  exact Rat.intCast_pos.mpr this
theorem sz_rv (hm : Sz 80 m) (hx : Bd 67 x) (hy : Bd 67 y) (h : x < y) : Sz 218 (rv m x y) := by
  unfold rv
  rw [one_eq]
  exact (sz_one.sub (sz_pv hm hx hy h)).mono (by decide)
theorem sp2_mem {n a b : Nat} {p r q : Rat} (h : q ∈ sp2 n a b p r) : q = p ∨ q = r ∨ q = 0 := by
  unfold sp2 at h
  rcases List.mem_or_eq_of_mem_set h with h | h
  · rcases List.mem_or_eq_of_mem_set h with h | h
    · exact .inr (.inr ((List.eq_of_mem_replicate h).trans z0_eq))
    · exact .inr (.inl h)
  · exact .inl h
theorem Pair.spr (h : Pair ns m a b x y) (hn : Nums ns) (hm : Sz 80 m) : Spr ns (sp2 ns.length a b (pv m x y) (rv m x y)) := by
  have hx := hn.bd67 (mem_at h.ax)
  have hy := hn.bd67 (mem_at h.bx)
  have hl := h.lt2 hn
  refine ⟨by simp [sp2], fun q hq => ?_, h.sum, fun q hq => ?_⟩
  · rcases sp2_mem hq with e | e | e
    · rw [e]; exact h.p0
    · rw [e]; exact h.r0
    · rw [e]; exact Rat.le_refl
  · rcases sp2_mem hq with e | e | e
    · rw [e]; exact (sz_pv hm hx hy hl).mono (by decide)
    · rw [e]; exact (sz_rv hm hx hy hl).mono (by decide)
    · rw [e]; exact sz_zero.mono (by decide)
theorem On2.spr {sp : List Rat} (h : On2 ns m sp) (hn : Nums ns) (hm : Sz 80 m) : Spr ns sp := by
  obtain ⟨a, b, x, y, h, rfl⟩ := h
  exact h.spr hn hm
theorem sp2_pos {n a b i : Nat} {p r q : Rat} (h : (sp2 n a b p r)[i]? = some q) (h0 : 0 < q) : i = a ∨ i = b := by
  unfold sp2 at h
  by_cases e1 : i = b
  · exact .inr e1
  by_cases e2 : i = a
  · exact .inl e2
  rw [List.getElem?_set_ne (by omega), List.getElem?_set_ne (by omega)] at h
  have := List.eq_of_mem_replicate (mem_at h)
  rw [this, z0_eq] at h0
  exact absurd h0 (by decide)
end
def IsG (ns : List Int) (m : Rat) (t : Int) (g : Rat) : Prop := (∃ a b x y, Pair ns m a b x y ∧ g = val m t x y) ∧ ∀ a b x y, Pair ns m a b x y → val m t x y ≤ g
def IsL (ns : List Int) (m : Rat) (t : Int) (g : Rat) : Prop := (∃ a b x y, Pair ns m a b x y ∧ g = val m t x y) ∧ ∀ a b x y, Pair ns m a b x y → g ≤ val m t x y
theorem IsG.sz {ns : List Int} {m g : Rat} {t : Int} (h : IsG ns m t g ∨ IsL ns m t g) (hn : Nums ns) (hm : Sz 80 m) : Sz 400 g := by
  obtain ⟨a, b, x, y, hp, e⟩ : ∃ a b x y, Pair ns m a b x y ∧ g = val m t x y := by
    rcases h with h | h <;> exact h.1
  have hx := hn.bd67 (mem_at hp.ax)
  have hy := hn.bd67 (mem_at hp.bx)
  have hl := hp.lt2 hn
  have e1 : rv m x y + pv m x y = 1 := by unfold rv; rw [one_eq]; grind
  rw [e]
  unfold val
  split <;> split
  · rw [e1]; exact sz_one.mono (by decide)
  · rw [Rat.add_zero]; exact (sz_rv hm hx hy hl).mono (by decide)
  · rw [Rat.zero_add]; exact (sz_pv hm hx hy hl).mono (by decide)
  · rw [Rat.add_zero]; exact sz_zero.mono (by decide)
/-- a mean within the numbers -/
structure Mid (ns : List Int) (m : Rat) : Prop where
  sz : Sz 80 m
  lo : ∀ x : Int, ns[0]? = some x → (x : Rat) ≤ m
  hi : ∀ x : Int, ns[ns.length - 1]? = some x → m ≤ (x : Rat)
theorem pv_nn {m : Rat} {x y : Int} (h : x < y) (h1 : (x : Rat) ≤ m) : 0 ≤ pv m x y := by
  have e := pv_mul (m := m) h
  have h2 := cast_lt h
  have h3 : 0 ≤ pv m x y * ((y : Rat) - x) := by rw [e]; grind
  by_cases z : 0 ≤ pv m x y
  · exact z
  · exfalso
    have z2 : pv m x y < 0 := Rat.not_le.mp z
    have : 0 < (-pv m x y) * ((y : Rat) - x) := Rat.mul_pos (by grind) (by grind)
    grind
theorem rv_nn {m : Rat} {x y : Int} (h : x < y) (h1 : m ≤ (y : Rat)) : 0 ≤ rv m x y := by
  have e := pv_mul (m := m) h
  have h2 := cast_lt h
  unfold rv
  rw [one_eq]
  have e2 : (1 - pv m x y) * ((y : Rat) - x) = y - m := by grind
  by_cases z : 0 ≤ 1 - pv m x y
  · exact z
  · exfalso
    have z2 : 1 - pv m x y < 0 := Rat.not_le.mp z
    have : 0 < (-(1 - pv m x y)) * ((y : Rat) - x) := Rat.mul_pos (by grind) (by grind)
    grind
theorem Mid.ends {ns : List Int} {m : Rat} (h : Mid ns m) (hn : Nums ns) : ∃ x y, Pair ns m 0 (ns.length - 1) x y := by
  have := hn.lo
  obtain ⟨x, hx⟩ := at_lt (xs := ns) (i := 0) (by omega)
  obtain ⟨y, hy⟩ := at_lt (xs := ns) (i := ns.length - 1) (by omega)
  have hl : x < y := by
    obtain ⟨l1, g1⟩ := List.getElem?_eq_some_iff.mp hx
    obtain ⟨l2, g2⟩ := List.getElem?_eq_some_iff.mp hy
    rw [← g1, ← g2]
    exact List.pairwise_iff_getElem.mp hn.asc _ _ l1 l2 (by omega)
  exact ⟨x, y, by omega, hx, hy, pv_nn hl (h.lo x hx), rv_nn hl (h.hi y hy)⟩
abbrev spD (sp : List Rat) : D := .tup (sp.map shQ)
theorem spD_inj : ∀ x y : List Rat, spD x = spD y → x = y := by
  intro x y e
  injection e with e
  exact map_inj shQ_inj _ _ e
structure Fs (ns : List Int) (m : Rat) (P : Nat → Nat → Prop) (fs : List (List Rat)) : Prop where
  on : ∀ sp ∈ fs, On2 ns m sp
  all : ∀ a b x y, Pair ns m a b x y → P a b → sp2 ns.length a b (pv m x y) (rv m x y) ∈ fs
theorem Fs.put {ns : List Int} {m : Rat} {P : Nat → Nat → Prop} {fs : List (List Rat)} {a b : Nat} {x y : Int} (h : Fs ns m P fs) (hp : Pair ns m a b x y) (P' : Nat → Nat → Prop) (hP : ∀ c d, P' c d → P c d ∨ (c = a ∧ d = b)) : Fs ns m P' (fs ++ [sp2 ns.length a b (pv m x y) (rv m x y)]) := by
  refine ⟨fun sp hs => ?_, fun c d u v hq hc => ?_⟩
  · rcases List.mem_append.mp hs with e | e
    · exact h.on sp e
    · simp at e; exact ⟨a, b, x, y, hp, e⟩
  · rcases hP c d hc with e | ⟨rfl, rfl⟩
    · exact List.mem_append_left _ (h.all c d u v hq e)
    · have e1 := hp.ax.symm.trans hq.ax
      have e2 := hp.bx.symm.trans hq.bx
      cases e1; cases e2
      simp
theorem Fs.skip {ns : List Int} {m : Rat} {P : Nat → Nat → Prop} {fs : List (List Rat)} {a b : Nat} {x y : Int} (h : Fs ns m P fs) (hx : ns[a]? = some x) (hy : ns[b]? = some y) (hp : ¬(0 ≤ pv m x y ∧ 0 ≤ rv m x y)) (P' : Nat → Nat → Prop) (hP : ∀ c d, P' c d → P c d ∨ (c = a ∧ d = b)) : Fs ns m P' fs := by
  refine ⟨h.on, fun c d u v hq hc => ?_⟩
  rcases hP c d hc with e | ⟨rfl, rfl⟩
  · exact h.all c d u v hq e
  · have e1 := hx.symm.trans hq.ax
    have e2 := hy.symm.trans hq.bx
    cases e1; cases e2
    exact absurd ⟨hq.p0, hq.r0⟩ hp
theorem Fs.mono {ns : List Int} {m : Rat} {P : Nat → Nat → Prop} {fs : List (List Rat)} (h : Fs ns m P fs) (P' : Nat → Nat → Prop) (hP : ∀ c d, c < d → P' c d → P c d) : Fs ns m P' fs := ⟨h.on, fun c d u v hq hc => h.all c d u v hq (hP c d hq.lt hc)⟩
theorem fm_const {α : Type} {f : α → D} {c : Rat} (xs : List α) : (xs.map f).filterMap (fun _ => some (shQ c)) = (List.replicate xs.length c).map shQ := by
  induction xs with
  | nil => rfl
  | cons x xs ih => simp only [List.map_cons, List.filterMap_cons, ih, List.length_cons, List.replicate_succ]
theorem set_map {α β : Type} {f : α → β} (xs : List α) (j : Nat) (r : α) : (xs.map f).set j (f r) = (xs.set j r).map f := List.map_set.symm
theorem put_eq (fs : List (List Rat)) (l : List Rat) (i : Nat) (p : Rat) : fs.map spD ++ [D.tup ((l.map shQ).set i (shQ p))] = (fs ++ [l.set i p]).map spD := by
  rw [List.map_append, ← List.map_set]; rfl
theorem ixN_n {l n : Nat} (h : n < l) : ixN l (n : Int) = some n := by
  unfold ixN
  rw [if_pos (by omega), if_pos (by omega)]; rfl
def dsp__spreads_on_two : DSp := fun as M Ψ _ => ∃ (t : Bool) (ns : List Int) (m : Rat), as = [.d (sqD t (ns.map .int)), .d (shQ m)] ∧ (Nums ns ∧ Mid ns m) ∧ ∀ (fs : List (List Rat)), (fs ≠ [] ∧ fs.length ≤ 64 ∧ Fs ns m (fun _ b => b < ns.length) fs) → Ψ (.d (.lst (fs.map spD))) M
theorem ca_s20 {C : Dl.Ctx} {ρ : Rho} {M : Mm} {Ψ : AV → Mm → Prop} {ns : List Int} {m : Rat} (hp : Nums ns ∧ Mid ns m) (h : ∀ (fs : List (List Rat)), (fs ≠ [] ∧ fs.length ≤ 64 ∧ Fs ns m (fun _ b => b < ns.length) fs) → Ψ (.d (.lst (fs.map spD))) M) : call0 C ρ dsp__spreads_on_two [.d (.lst (ns.map .int)), .d (shQ m)] M Ψ := ⟨false, ns, m, rfl, hp, fun fs hq => (by show Ψ _ (M ++ []); rw [List.append_nil]; exact h fs hq)⟩
theorem ca_s21 {C : Dl.Ctx} {ρ : Rho} {M : Mm} {Ψ : AV → Mm → Prop} {ns : List Int} {m : Rat} (hp : Nums ns ∧ Mid ns m) (h : ∀ (fs : List (List Rat)), (fs ≠ [] ∧ fs.length ≤ 64 ∧ Fs ns m (fun _ b => b < ns.length) fs) → Ψ (.d (.lst (fs.map spD))) M) : call0 C ρ dsp__spreads_on_two [.d (.tup (ns.map .int)), .d (shQ m)] M Ψ := ⟨true, ns, m, rfl, hp, fun fs hq => (by show Ψ _ (M ++ []); rw [List.append_nil]; exact h fs hq)⟩
local macro_rules | `(tactic| fail "dl_u") => `(tactic| with_reducible refine Lw.ca_s20 ?_ fun fs hq => ?_)
local macro_rules | `(tactic| fail "dl_u") => `(tactic| with_reducible refine Lw.ca_s21 ?_ fun fs hq => ?_)
def dsp_greatest_spread : DSp := fun as M Ψ _ => ∃ (t : Bool) (ns : List Int) (m : Rat) (a : Int), as = [.d (sqD t (ns.map .int)), .d (shQ m), .d (.int a)] ∧ (Nums ns ∧ Mid ns m) ∧ ∀ (sp : List Rat), (On2 ns m sp ∧ IsG ns m a (tl ns sp a)) → Ψ (.d (spD sp)) M
theorem ca_gs0 {C : Dl.Ctx} {ρ : Rho} {M : Mm} {Ψ : AV → Mm → Prop} {ns : List Int} {m : Rat} {a : Int} (hp : Nums ns ∧ Mid ns m) (h : ∀ (sp : List Rat), (On2 ns m sp ∧ IsG ns m a (tl ns sp a)) → Ψ (.d (spD sp)) M) : call0 C ρ dsp_greatest_spread [.d (.lst (ns.map .int)), .d (shQ m), .d (.int a)] M Ψ := ⟨false, ns, m, a, rfl, hp, fun sp hq => (by show Ψ _ (M ++ []); rw [List.append_nil]; exact h sp hq)⟩
theorem ca_gs1 {C : Dl.Ctx} {ρ : Rho} {M : Mm} {Ψ : AV → Mm → Prop} {ns : List Int} {m : Rat} {a : Int} (hp : Nums ns ∧ Mid ns m) (h : ∀ (sp : List Rat), (On2 ns m sp ∧ IsG ns m a (tl ns sp a)) → Ψ (.d (spD sp)) M) : call0 C ρ dsp_greatest_spread [.d (.tup (ns.map .int)), .d (shQ m), .d (.int a)] M Ψ := ⟨true, ns, m, a, rfl, hp, fun sp hq => (by show Ψ _ (M ++ []); rw [List.append_nil]; exact h sp hq)⟩
local macro_rules | `(tactic| fail "dl_u") => `(tactic| with_reducible refine Lw.ca_gs0 ?_ fun sp hq => ?_)
local macro_rules | `(tactic| fail "dl_u") => `(tactic| with_reducible refine Lw.ca_gs1 ?_ fun sp hq => ?_)
def dsp_least_spread : DSp := fun as M Ψ _ => ∃ (t : Bool) (ns : List Int) (m : Rat) (a : Int), as = [.d (sqD t (ns.map .int)), .d (shQ m), .d (.int a)] ∧ (Nums ns ∧ Mid ns m) ∧ ∀ (sp : List Rat), (On2 ns m sp ∧ IsL ns m a (tl ns sp a)) → Ψ (.d (spD sp)) M
theorem ca_lsp0 {C : Dl.Ctx} {ρ : Rho} {M : Mm} {Ψ : AV → Mm → Prop} {ns : List Int} {m : Rat} {a : Int} (hp : Nums ns ∧ Mid ns m) (h : ∀ (sp : List Rat), (On2 ns m sp ∧ IsL ns m a (tl ns sp a)) → Ψ (.d (spD sp)) M) : call0 C ρ dsp_least_spread [.d (.lst (ns.map .int)), .d (shQ m), .d (.int a)] M Ψ := ⟨false, ns, m, a, rfl, hp, fun sp hq => (by show Ψ _ (M ++ []); rw [List.append_nil]; exact h sp hq)⟩
theorem ca_lsp1 {C : Dl.Ctx} {ρ : Rho} {M : Mm} {Ψ : AV → Mm → Prop} {ns : List Int} {m : Rat} {a : Int} (hp : Nums ns ∧ Mid ns m) (h : ∀ (sp : List Rat), (On2 ns m sp ∧ IsL ns m a (tl ns sp a)) → Ψ (.d (spD sp)) M) : call0 C ρ dsp_least_spread [.d (.tup (ns.map .int)), .d (shQ m), .d (.int a)] M Ψ := ⟨true, ns, m, a, rfl, hp, fun sp hq => (by show Ψ _ (M ++ []); rw [List.append_nil]; exact h sp hq)⟩
local macro_rules | `(tactic| fail "dl_u") => `(tactic| with_reducible refine Lw.ca_lsp0 ?_ fun sp hq => ?_)
local macro_rules | `(tactic| fail "dl_u") => `(tactic| with_reducible refine Lw.ca_lsp1 ?_ fun sp hq => ?_)
def dsp_greatest_tail : DSp := fun as M Ψ _ => ∃ (t : Bool) (ns : List Int) (m : Rat) (a : Int), as = [.d (sqD t (ns.map .int)), .d (shQ m), .d (.int a)] ∧ (Nums ns ∧ Mid ns m) ∧ ∀ (g : Rat), (IsG ns m a g) → Ψ (.d (shQ g)) M
theorem ca_gt0 {C : Dl.Ctx} {ρ : Rho} {M : Mm} {Ψ : AV → Mm → Prop} {ns : List Int} {m : Rat} {a : Int} (hp : Nums ns ∧ Mid ns m) (h : ∀ (g : Rat), (IsG ns m a g) → Ψ (.d (shQ g)) M) : call0 C ρ dsp_greatest_tail [.d (.lst (ns.map .int)), .d (shQ m), .d (.int a)] M Ψ := ⟨false, ns, m, a, rfl, hp, fun g hq => (by show Ψ _ (M ++ []); rw [List.append_nil]; exact h g hq)⟩
theorem ca_gt1 {C : Dl.Ctx} {ρ : Rho} {M : Mm} {Ψ : AV → Mm → Prop} {ns : List Int} {m : Rat} {a : Int} (hp : Nums ns ∧ Mid ns m) (h : ∀ (g : Rat), (IsG ns m a g) → Ψ (.d (shQ g)) M) : call0 C ρ dsp_greatest_tail [.d (.tup (ns.map .int)), .d (shQ m), .d (.int a)] M Ψ := ⟨true, ns, m, a, rfl, hp, fun g hq => (by show Ψ _ (M ++ []); rw [List.append_nil]; exact h g hq)⟩
local macro_rules | `(tactic| fail "dl_u") => `(tactic| with_reducible refine Lw.ca_gt0 ?_ fun g hq => ?_)
local macro_rules | `(tactic| fail "dl_u") => `(tactic| with_reducible refine Lw.ca_gt1 ?_ fun g hq => ?_)
def dsp_least_tail : DSp := fun as M Ψ _ => ∃ (t : Bool) (ns : List Int) (m : Rat) (a : Int), as = [.d (sqD t (ns.map .int)), .d (shQ m), .d (.int a)] ∧ (Nums ns ∧ Mid ns m) ∧ ∀ (g : Rat), (IsL ns m a g) → Ψ (.d (shQ g)) M
theorem ca_lt0 {C : Dl.Ctx} {ρ : Rho} {M : Mm} {Ψ : AV → Mm → Prop} {ns : List Int} {m : Rat} {a : Int} (hp : Nums ns ∧ Mid ns m) (h : ∀ (g : Rat), (IsL ns m a g) → Ψ (.d (shQ g)) M) : call0 C ρ dsp_least_tail [.d (.lst (ns.map .int)), .d (shQ m), .d (.int a)] M Ψ := ⟨false, ns, m, a, rfl, hp, fun g hq => (by show Ψ _ (M ++ []); rw [List.append_nil]; exact h g hq)⟩
theorem ca_lt1 {C : Dl.Ctx} {ρ : Rho} {M : Mm} {Ψ : AV → Mm → Prop} {ns : List Int} {m : Rat} {a : Int} (hp : Nums ns ∧ Mid ns m) (h : ∀ (g : Rat), (IsL ns m a g) → Ψ (.d (shQ g)) M) : call0 C ρ dsp_least_tail [.d (.tup (ns.map .int)), .d (shQ m), .d (.int a)] M Ψ := ⟨true, ns, m, a, rfl, hp, fun g hq => (by show Ψ _ (M ++ []); rw [List.append_nil]; exact h g hq)⟩
local macro_rules | `(tactic| fail "dl_u") => `(tactic| with_reducible refine Lw.ca_lt0 ?_ fun g hq => ?_)
local macro_rules | `(tactic| fail "dl_u") => `(tactic| with_reducible refine Lw.ca_lt1 ?_ fun g hq => ?_)
set_option maxHeartbeats 4000000 in
theorem fk__spreads_on_two {P : Program} {w : World} {K : PySem.W.Frag} {mg : Str → Option Value} {base : Heap} {cShare : Addr} (T : Txt K mg cShare) : Fk P w K mg base (wd K cShare) "_spreads_on_two" ["numbers", "mean"] 0 dsp__spreads_on_two 5 := by
  obtain ⟨f, fd, F, hm⟩ := T.d__spreads_on_two.ex
  refine ⟨f, fd, fn_D2 F sc__spreads_on_two vi__spreads_on_two gl__spreads_on_two rfl (fun as M Ψ E h => ?_) (fun X as M Ψ E ok own hX hM h => ?_), hm, F.kp, F.binds fun _ _ _ _ _ _ us hl => match us, hl with | [_, _], _ => rfl⟩
  · obtain ⟨t, ns, m, rfl, hp, h⟩ := h <;> rfl
  have l0 : Lv X "numbers" 0 := ok.lv 0 rfl (by decide) rfl rfl
  have t0 : Ls X "numbers" 0 := ok.ls 0 rfl (by decide)
  have l1 : Lv X "mean" 1 := ok.lv 1 rfl (by decide) rfl rfl
  have t1 : Ls X "mean" 1 := ok.ls 1 rfl (by decide)
  have l2 : Lv X "found" 2 := ok.lv 2 rfl (by decide) rfl rfl
  have t2 : Ls X "found" 2 := ok.ls 2 rfl (by decide)
  have l3 : Lv X "high" 3 := ok.lv 3 rfl (by decide) rfl rfl
  have t3 : Ls X "high" 3 := ok.ls 3 rfl (by decide)
  have l4 : Lv X "number" 4 := ok.lv 4 rfl (by decide) rfl rfl
  have t4 : Ls X "number" 4 := ok.ls 4 rfl (by decide)
  have l5 : Lv X "low" 5 := ok.lv 5 rfl (by decide) rfl rfl
  have t5 : Ls X "low" 5 := ok.ls 5 rfl (by decide)
  have l6 : Lv X "other" 6 := ok.lv 6 rfl (by decide) rfl rfl
  have t6 : Ls X "other" 6 := ok.ls 6 rfl (by decide)
  have l7 : Lv X "part" 7 := ok.lv 7 rfl (by decide) rfl rfl
  have t7 : Ls X "part" 7 := ok.ls 7 rfl (by decide)
  have l8 : Lv X "rest" 8 := ok.lv 8 rfl (by decide) rfl rfl
  have t8 : Ls X "rest" 8 := ok.ls 8 rfl (by decide)
  have l9 : Lv X "spread" 9 := ok.lv 9 rfl (by decide) rfl rfl
  have t9 : Ls X "spread" 9 := ok.ls 9 rfl (by decide)
  have c10 : (N__spreads_on_two)[10]? = some ("_" : Str) := rfl
  have f0 := ok.fc 0 (x := "check_numbers") rfl (fk_check_numbers T) (by decide) rfl
  have b1 : Bt X "enumerate" "enumerate" := ok.bt 1 rfl T.b_enumerate rfl (by decide) rfl
  have e1 : (g__spreads_on_two)[1]? = some ("enumerate" : Str) := rfl
  have m1 : mg "enumerate" = none := T.b_enumerate
  have f2 := ok.cc 2 (x := "Share") (c := 0) rfl (fk_Share_init T) (by decide) rfl
  have b3 : Bt X "tuple" "tuple" := ok.bt 3 rfl T.b_tuple rfl (by decide) rfl
  have kShare := T.cls_Share
  have sShare : IsF X.K (wd K cShare) 0 := by rw [show X.K = K from ok.kE]; exact T.isf_Share
  have jShare : PySem.W.kitOne X.K (.ref cShare) (.ref cShare) = some true := by rw [show X.K = K from ok.kE]; exact T.kc_Share
  have qShare0 : ((wd K cShare).cf 0)[0]? = some ("over" : Str) := rfl
  have qShare1 : ((wd K cShare).cf 0)[1]? = some ("under" : Str) := rfl
  have e_Share_sub := fk_Share_sub (P := P) (w := w) (base := base) T
  have e_Share_by := ok.mc (fk_Share_by (P := P) (w := w) (base := base) T) (by decide) T.cls_Share (by show ¬ ("by" : Str) ∈ (["over", "under"] : List Str); decide)
  have calm := ok.calm
  have wk := ok.wk
  obtain ⟨t, ns, m, rfl, hp, h⟩ := h
  obtain rfl : M = [] := List.eq_nil_of_length_eq_zero hM
  refine ws_rho (by fail "rho") ?_
  obtain ⟨hn, hd⟩ := hp
  have hz := hd.sz
  have h8 := hn.hi
  have hl : (ns.map D.int).length = ns.length := by simp
  cases t
  all_goals
    fail "dls"
    · exact hn
    refine w1_for ok own ?_
    fail "dls"
    refine ⟨fun i ρ M => ∃ (fs : List (List Rat)) (y3 y4 y5 y6 y7 y8 y9 y10 : Option AV) (R : Mm), ρ = [_, some (.d (shQ m)), some (.m 0), y3, y4, y5, y6, y7, y8, y9, y10] ∧ M = .l (fs.map spD) :: R ∧ fs.length ≤ 8 * i ∧ Fs ns m (fun _ b => b < i) fs, ⟨[], _, _, _, _, _, _, _, _, _, rfl, rfl, by simp, by simp, fun a b x y _ z => absurd z (by omega)⟩, ?_, ?_⟩
    · rintro i d ρ' M' hi hd ⟨fs, y3, y4, y5, y6, y7, y8, y9, y10, R, rfl, rfl, hfl, hf⟩
      obtain ⟨d, hd2, rfl⟩ := enD_at hd
      obtain ⟨y, hy, rfl⟩ := map_at hd2
      fail "dlg"
      refine ws_forget 1 [_, some (.d (shQ m)), some (.m 0), some (.d (.int (i : Nat))), some (.d (.int y)), none, none, none, none, none, none] [.l (fs.map spD)] (by rfl) (by fail "ler") (by rfl) (by rfl) ?_
      fail "dls"
      have hi2 := lt_at hy
      have hcut : cutA (ns.map D.int) none (some (i : Int)) = (ns.take i).map D.int := by rw [cut_to, List.map_take]
      refine w1_for (ok.at _) own ?_
      fail "dls"
      rw [hcut]
      refine ⟨fun k ρ M => ∃ (fs : List (List Rat)) (y5 y6 y7 y8 y9 y10 : Option AV) (R : Mm), ρ = [_, some (.d (shQ m)), some (.m 0), some (.d (.int (i : Nat))), some (.d (.int y)), y5, y6, y7, y8, y9, y10] ∧ M = .l (fs.map spD) :: R ∧ fs.length ≤ 8 * i + k ∧ Fs ns m (fun a b => b < i ∨ b = i ∧ a < k) fs, ⟨fs, _, _, _, _, _, _, _, rfl, rfl, by omega, hf.mono _ fun c d _ z => by omega⟩, ?_, ?_⟩
      · rintro k d ρ' M' hk hd ⟨fs, y5, y6, y7, y8, y9, y10, R, rfl, rfl, hfl, hf⟩
        obtain ⟨d, hd3, rfl⟩ := enD_at hd
        obtain ⟨x, hx, rfl⟩ := map_at hd3
        have hki : k < i := by have := lt_at hx; simp at this; omega
        rw [List.getElem?_take_of_lt hki] at hx
        fail "dlg"
        refine ws_forget 1 [_, some (.d (shQ m)), some (.m 0), some (.d (.int (i : Nat))), some (.d (.int y)), some (.d (.int (k : Nat))), some (.d (.int x)), none, none, none, none] [.l (fs.map spD)] (by rfl) (by fail "ler") (by rfl) (by rfl) ?_
        have hxy : x < y := by
          obtain ⟨l1, g1⟩ := List.getElem?_eq_some_iff.mp hx
          obtain ⟨l2, g2⟩ := List.getElem?_eq_some_iff.mp hy
          rw [← g1, ← g2]
          exact List.pairwise_iff_getElem.mp hn.asc _ _ l1 l2 hki
        have bx := hn.bd67 (mem_at hx)
        have by' := hn.bd67 (mem_at hy)
        have szx : Sz 67 (Rat.divInt x 1) := by rw [di_one]; exact sz_int bx (by decide)
        have szd : Sz 68 (Rat.divInt (y - x) 1) := by rw [di_one]; exact sz_int (bd_sub67 bx by') (by decide)
        have szp : Sz 216 (pv m x y) := sz_pv hz bx by' hxy
        have psd : 0 < Rat.divInt (y - x) 1 := by
          rw [di_one]
          exact Rat.intCast_pos.mpr (by omega)
        fail "dls"
        all_goals first
          | exact ⟨by decide, bd_one (by decide)⟩
          | exact ⟨hz.mono (by decide), szx.mono (by decide)⟩
          | exact ⟨psd, (hz.sub szx).mono (by decide), szd.mono (by decide)⟩
          | exact ⟨by rw [one_eq]; exact sz_one.mono (by decide), szp.mono (by decide)⟩
          | exact ⟨fs, _, _, _, _, _, _, _, rfl, rfl, by omega, hf.skip hx hy (fun z => absurd (Rat.num_nonneg.mpr z.1) (by assumption)) _ fun c d z => by omega⟩
          | exact ⟨fs, _, _, _, _, _, _, _, rfl, rfl, by omega, hf.skip hx hy (fun z => absurd (Rat.num_nonneg.mpr z.2) (by assumption)) _ fun c d z => by omega⟩
          | skip
        rename_i hc1 hc2
        have hpr : Pair ns m k i x y := ⟨hki, hx, hy, Rat.num_nonneg.mp hc1, Rat.num_nonneg.mp hc2⟩
        refine w1_sLcT [("_", 10)] [10] (by fail "as") (by fail "ok") hX (by decide +kernel) rfl (by intros; rfl) ?_
        fail "dls"
        refine ⟨by omega, fun _ => some (shQ z0), ?_, ?_⟩
        · intro j d hd
          obtain ⟨u, hu, rfl⟩ := map_at hd
          fail "dls"
          · exact ⟨by decide, bd_one (by decide)⟩
          · rfl
        rw [fm_const]
        fail "dls"
        refine wset_n (ds := (List.replicate ns.length z0).map shQ) (j := k) (by rfl) (ixN_n (by simp; omega)) (by (simp only [List.set_cons_succ, List.set_cons_zero, set_map]); first | done | exact rfl) ?_
        fail "dls"
        refine wset_n (ds := ((List.replicate ns.length z0).set k (rv m x y)).map shQ) (j := i) (by rfl) (ixN_n (by simp; omega)) (by (simp only [List.set_cons_succ, List.set_cons_zero]); first | done | exact rfl) ?_
        fail "dls"
        · simp; omega
        · rw [put_eq]
          exact ⟨fs ++ [sp2 ns.length k i (pv m x y) (rv m x y)], _, _, _, _, _, _, _, rfl, rfl, by simp; omega, hf.put hpr _ fun c d z => by omega⟩
      · rintro ρ' M' ⟨fs, y5, y6, y7, y8, y9, y10, R, rfl, rfl, hfl, hf⟩
        have hlk : (enD ((ns.take i).map D.int)).length = i := by rw [enD_len, List.length_map, List.length_take]; omega
        rw [hlk] at hfl hf
        exact ⟨fs, _, _, _, _, _, _, _, _, R, rfl, rfl, by omega, hf.mono _ fun c d h1 z => by omega⟩
    · rintro ρ' M' ⟨fs, y3, y4, y5, y6, y7, y8, y9, y10, R, rfl, rfl, hfl, hf⟩
      rw [enD_len, hl] at hfl hf
      refine ws_forget 1 [_, some (.d (shQ m)), some (.m 0), none, none, none, none, none, none, none, none] [.l (fs.map spD)] (by rfl) (by fail "ler") (by rfl) (by rfl) ?_
      obtain ⟨x, y, hp⟩ := hd.ends hn
      have hmem := hf.all _ _ _ _ hp (by have := hn.lo; omega)
      have hne : fs ≠ [] := List.ne_nil_of_mem hmem
      fail "dls"
      refine wo_eqLen (by fail "ok") (by rfl) (by rfl) (by simp; exact hne) ?_
      fail "dls"
      exact h fs ⟨hne, by omega, hf⟩
theorem sub_le {c a b : Rat} (h : c - a ≤ c - b) : b ≤ a := by grind
theorem Fs.sz {ns : List Int} {m : Rat} {P : Nat → Nat → Prop} {fs : List (List Rat)} (h : Fs ns m P fs) (hn : Nums ns) (hm : Sz 80 m) {sp : List Rat} (hs : sp ∈ fs) (t : Int) : Sz 400 (tl ns sp t) := by
  obtain ⟨a, b, x, y, hp, rfl⟩ := h.on sp hs
  have hx := hn.bd67 (mem_at hp.ax)
  have hy := hn.bd67 (mem_at hp.bx)
  have hl := hp.lt2 hn
  have e1 : rv m x y + pv m x y = 1 := by unfold rv; rw [one_eq]; grind
  rw [hp.tl]
  unfold val
  split <;> split
  · rw [e1]; exact sz_one.mono (by decide)
  · rw [Rat.add_zero]; exact (sz_rv hm hx hy hl).mono (by decide)
  · rw [Rat.zero_add]; exact (sz_pv hm hx hy hl).mono (by decide)
  · rw [Rat.add_zero]; exact sz_zero.mono (by decide)
theorem Fs.best {ns : List Int} {m : Rat} {fs : List (List Rat)} (h : Fs ns m (fun _ b => b < ns.length) fs) {t : Int} {k : Nat} {sp : List Rat} (hk : fs[k]? = some sp) (hb : ∀ s ∈ fs, tl ns s t ≤ tl ns sp t) : On2 ns m sp ∧ IsG ns m t (tl ns sp t) := by
  have ho := h.on sp (mem_at hk)
  refine ⟨ho, ?_, fun a b x y hp => ?_⟩
  · obtain ⟨a, b, x, y, hp, rfl⟩ := ho
    exact ⟨a, b, x, y, hp, hp.tl t⟩
  · have := hb _ (h.all a b x y hp (lt_at hp.bx))
    rwa [hp.tl] at this
theorem Fs.least {ns : List Int} {m : Rat} {fs : List (List Rat)} (h : Fs ns m (fun _ b => b < ns.length) fs) {t : Int} {k : Nat} {sp : List Rat} (hk : fs[k]? = some sp) (hb : ∀ s ∈ fs, tl ns sp t ≤ tl ns s t) : On2 ns m sp ∧ IsL ns m t (tl ns sp t) := by
  have ho := h.on sp (mem_at hk)
  refine ⟨ho, ?_, fun a b x y hp => ?_⟩
  · obtain ⟨a, b, x, y, hp, rfl⟩ := ho
    exact ⟨a, b, x, y, hp, hp.tl t⟩
  · have := hb _ (h.all a b x y hp (lt_at hp.bx))
    rwa [hp.tl] at this
set_option maxHeartbeats 4000000 in
theorem fk_greatest_spread {P : Program} {w : World} {K : PySem.W.Frag} {mg : Str → Option Value} {base : Heap} {cShare : Addr} (T : Txt K mg cShare) : Fk P w K mg base (wd K cShare) "greatest_spread" ["numbers", "mean", "at"] 0 dsp_greatest_spread 9 := by
  obtain ⟨f, fd, F, hm⟩ := T.d_greatest_spread.ex
  refine ⟨f, fd, fn_D2 F sc_greatest_spread vi_greatest_spread gl_greatest_spread rfl (fun as M Ψ E h => ?_) (fun X as M Ψ E ok own hX hM h => ?_), hm, F.kp, F.binds fun _ _ _ _ _ _ us hl => match us, hl with | [_, _, _], _ => rfl⟩
  · obtain ⟨t, ns, m, a, rfl, hp, h⟩ := h <;> rfl
  have l0 : Lv X "numbers" 0 := ok.lv 0 rfl (by decide) rfl rfl
  have t0 : Ls X "numbers" 0 := ok.ls 0 rfl (by decide)
  have l1 : Lv X "mean" 1 := ok.lv 1 rfl (by decide) rfl rfl
  have t1 : Ls X "mean" 1 := ok.ls 1 rfl (by decide)
  have l2 : Lv X "at" 2 := ok.lv 2 rfl (by decide) rfl rfl
  have t2 : Ls X "at" 2 := ok.ls 2 rfl (by decide)
  have l3 : Lv X "spreads" 3 := ok.lv 3 rfl (by decide) rfl rfl
  have t3 : Ls X "spreads" 3 := ok.ls 3 rfl (by decide)
  have c4 : (N_greatest_spread)[4]? = some ("spread" : Str) := rfl
  have fx0 := ok.fx (x := "tail_of") (fk_tail_of T) (by decide) rfl
  have f0 := ok.fc 0 (x := "_spreads_on_two") rfl (fk__spreads_on_two T) (by decide) rfl
  have f1 := ok.fc 1 (x := "greatest_at") rfl (fk_greatest_at T) (by decide) rfl
  have kShare := T.cls_Share
  have sShare : IsF X.K (wd K cShare) 0 := by rw [show X.K = K from ok.kE]; exact T.isf_Share
  have jShare : PySem.W.kitOne X.K (.ref cShare) (.ref cShare) = some true := by rw [show X.K = K from ok.kE]; exact T.kc_Share
  have qShare0 : ((wd K cShare).cf 0)[0]? = some ("over" : Str) := rfl
  have qShare1 : ((wd K cShare).cf 0)[1]? = some ("under" : Str) := rfl
  have calm := ok.calm
  have wk := ok.wk
  obtain ⟨t, ns, m, a, rfl, hp, h⟩ := h
  obtain rfl : M = [] := List.eq_nil_of_length_eq_zero hM
  refine ws_rho (by fail "rho") ?_
  obtain ⟨hn, hd⟩ := hp
  have hz := hd.sz
  cases t
  all_goals
    fail "dls"
    · exact ⟨hn, hd⟩
    rename_i fs hfs
    obtain ⟨f1, f2, f3⟩ := hfs
    refine we_lcO [("spread", 4)] [4] (by fail "ok") hX (by decide +kernel) ?_
    fail "dls"
    refine ⟨by rw [List.length_map]; omega, gOf spD (fun sp => some (shQ (tl ns sp a))), ?_, ?_⟩
    · intro j d hd2
      obtain ⟨sp, hs, rfl⟩ := map_at hd2
      rw [gOf_at spD_inj]
      fail "dls"
      · exact ⟨hn, (f3.on sp (mem_at hs)).spr hn hz⟩
      · rfl
    rw [gOf_map spD_inj, fm_some, show (fun sp => shQ (tl ns sp a)) = shQ ∘ (fun sp => tl ns sp a) from rfl, ← List.map_map]
    fail "dls"
    · refine ⟨by simpa using f1, by simp; omega, fun q hq => ?_⟩
      obtain ⟨sp, hs, rfl⟩ := List.mem_map.mp hq
      exact (f3.sz hn hz hs a).mono (by decide)
    rename_i k q hq
    obtain ⟨sp, hs, rfl⟩ : ∃ sp, fs[k]? = some sp ∧ q = tl ns sp a := by
      have := hq.1
      rw [List.getElem?_map] at this
      cases e : fs[k]? with
      | none => rw [e] at this; cases this
      | some sp => rw [e] at this; cases this; exact ⟨sp, rfl, rfl⟩
    refine wi_seq (by fail "as") rfl (atI_n (d := spD sp) (by rw [List.getElem?_map, hs]; rfl)) ?_
    fail "dls"
    obtain ⟨o1, o2⟩ := f3.best hs fun s hm => hq.2 _ (List.mem_map_of_mem hm)
    exact h sp ⟨o1, o2⟩
set_option maxHeartbeats 4000000 in
theorem fk_least_spread {P : Program} {w : World} {K : PySem.W.Frag} {mg : Str → Option Value} {base : Heap} {cShare : Addr} (T : Txt K mg cShare) : Fk P w K mg base (wd K cShare) "least_spread" ["numbers", "mean", "at"] 0 dsp_least_spread 9 := by
  obtain ⟨f, fd, F, hm⟩ := T.d_least_spread.ex
  refine ⟨f, fd, fn_D2 F sc_least_spread vi_least_spread gl_least_spread rfl (fun as M Ψ E h => ?_) (fun X as M Ψ E ok own hX hM h => ?_), hm, F.kp, F.binds fun _ _ _ _ _ _ us hl => match us, hl with | [_, _, _], _ => rfl⟩
  · obtain ⟨t, ns, m, a, rfl, hp, h⟩ := h <;> rfl
  have l0 : Lv X "numbers" 0 := ok.lv 0 rfl (by decide) rfl rfl
  have t0 : Ls X "numbers" 0 := ok.ls 0 rfl (by decide)
  have l1 : Lv X "mean" 1 := ok.lv 1 rfl (by decide) rfl rfl
  have t1 : Ls X "mean" 1 := ok.ls 1 rfl (by decide)
  have l2 : Lv X "at" 2 := ok.lv 2 rfl (by decide) rfl rfl
  have t2 : Ls X "at" 2 := ok.ls 2 rfl (by decide)
  have l3 : Lv X "spreads" 3 := ok.lv 3 rfl (by decide) rfl rfl
  have t3 : Ls X "spreads" 3 := ok.ls 3 rfl (by decide)
  have c4 : (N_least_spread)[4]? = some ("spread" : Str) := rfl
  have fx0 := ok.cx (x := "Share") (c := 0) (fk_Share_init T) (by decide) rfl
  have fx1 := ok.fx (x := "tail_of") (fk_tail_of T) (by decide) rfl
  have f0 := ok.fc 0 (x := "_spreads_on_two") rfl (fk__spreads_on_two T) (by decide) rfl
  have f1 := ok.fc 1 (x := "greatest_at") rfl (fk_greatest_at T) (by decide) rfl
  have kShare := T.cls_Share
  have sShare : IsF X.K (wd K cShare) 0 := by rw [show X.K = K from ok.kE]; exact T.isf_Share
  have jShare : PySem.W.kitOne X.K (.ref cShare) (.ref cShare) = some true := by rw [show X.K = K from ok.kE]; exact T.kc_Share
  have qShare0 : ((wd K cShare).cf 0)[0]? = some ("over" : Str) := rfl
  have qShare1 : ((wd K cShare).cf 0)[1]? = some ("under" : Str) := rfl
  have e_Share_sub := fk_Share_sub (P := P) (w := w) (base := base) T
  have calm := ok.calm
  have wk := ok.wk
  obtain ⟨t, ns, m, a, rfl, hp, h⟩ := h
  obtain rfl : M = [] := List.eq_nil_of_length_eq_zero hM
  refine ws_rho (by fail "rho") ?_
  obtain ⟨hn, hd⟩ := hp
  have hz := hd.sz
  cases t
  all_goals
    fail "dls"
    · exact ⟨hn, hd⟩
    rename_i fs hfs
    obtain ⟨f1, f2, f3⟩ := hfs
    refine we_lcO [("spread", 4)] [4] (by fail "ok") hX (by decide +kernel) ?_
    fail "dls"
    refine ⟨by rw [List.length_map]; omega, gOf spD (fun sp => some (shQ (Rat.divInt 1 1 - tl ns sp a))), ?_, ?_⟩
    · intro j d hd2
      obtain ⟨sp, hs, rfl⟩ := map_at hd2
      rw [gOf_at spD_inj]
      fail "dls"
      all_goals first
        | exact ⟨by decide, bd_one (by decide)⟩
        | exact ⟨hn, (f3.on sp (mem_at hs)).spr hn hz⟩
        | exact ⟨by rw [one_eq]; exact sz_one.mono (by decide), (f3.sz hn hz (mem_at hs) a).mono (by decide)⟩
        | rfl
    rw [gOf_map spD_inj, fm_some, show (fun sp => shQ (Rat.divInt 1 1 - tl ns sp a)) = shQ ∘ (fun sp => Rat.divInt 1 1 - tl ns sp a) from rfl, ← List.map_map]
    fail "dls"
    · refine ⟨by simpa using f1, by simp; omega, fun q hq => ?_⟩
      obtain ⟨sp, hs, rfl⟩ := List.mem_map.mp hq
      rw [one_eq]
      exact (sz_one.sub (f3.sz hn hz hs a)).mono (by decide)
    rename_i k q hq
    obtain ⟨sp, hs, rfl⟩ : ∃ sp, fs[k]? = some sp ∧ q = Rat.divInt 1 1 - tl ns sp a := by
      have := hq.1
      rw [List.getElem?_map] at this
      cases e : fs[k]? with
      | none => rw [e] at this; cases this
      | some sp => rw [e] at this; cases this; exact ⟨sp, rfl, rfl⟩
    refine wi_seq (by fail "as") rfl (atI_n (d := spD sp) (by rw [List.getElem?_map, hs]; rfl)) ?_
    fail "dls"
    obtain ⟨o1, o2⟩ := f3.least hs fun s hm => by
      exact sub_le (hq.2 (Rat.divInt 1 1 - tl ns s a) (List.mem_map.mpr ⟨s, hm, rfl⟩))
    exact h sp ⟨o1, o2⟩
set_option maxHeartbeats 4000000 in
theorem fk_greatest_tail {P : Program} {w : World} {K : PySem.W.Frag} {mg : Str → Option Value} {base : Heap} {cShare : Addr} (T : Txt K mg cShare) : Fk P w K mg base (wd K cShare) "greatest_tail" ["numbers", "mean", "at"] 0 dsp_greatest_tail 10 := by
  obtain ⟨f, fd, F, hm⟩ := T.d_greatest_tail.ex
  refine ⟨f, fd, fn_D2 F sc_greatest_tail vi_greatest_tail gl_greatest_tail rfl (fun as M Ψ E h => ?_) (fun X as M Ψ E ok own hX hM h => ?_), hm, F.kp, F.binds fun _ _ _ _ _ _ us hl => match us, hl with | [_, _, _], _ => rfl⟩
  · obtain ⟨t, ns, m, a, rfl, hp, h⟩ := h <;> rfl
  have l0 : Lv X "numbers" 0 := ok.lv 0 rfl (by decide) rfl rfl
  have t0 : Ls X "numbers" 0 := ok.ls 0 rfl (by decide)
  have l1 : Lv X "mean" 1 := ok.lv 1 rfl (by decide) rfl rfl
  have t1 : Ls X "mean" 1 := ok.ls 1 rfl (by decide)
  have l2 : Lv X "at" 2 := ok.lv 2 rfl (by decide) rfl rfl
  have t2 : Ls X "at" 2 := ok.ls 2 rfl (by decide)
  have f0 := ok.fc 0 (x := "tail_of") rfl (fk_tail_of T) (by decide) rfl
  have f1 := ok.fc 1 (x := "greatest_spread") rfl (fk_greatest_spread T) (by decide) rfl
  have kShare := T.cls_Share
  have sShare : IsF X.K (wd K cShare) 0 := by rw [show X.K = K from ok.kE]; exact T.isf_Share
  have jShare : PySem.W.kitOne X.K (.ref cShare) (.ref cShare) = some true := by rw [show X.K = K from ok.kE]; exact T.kc_Share
  have qShare0 : ((wd K cShare).cf 0)[0]? = some ("over" : Str) := rfl
  have qShare1 : ((wd K cShare).cf 0)[1]? = some ("under" : Str) := rfl
  have calm := ok.calm
  have wk := ok.wk
  obtain ⟨t, ns, m, a, rfl, hp, h⟩ := h
  obtain rfl : M = [] := List.eq_nil_of_length_eq_zero hM
  refine ws_rho (by fail "rho") ?_
  obtain ⟨hn, hd⟩ := hp
  cases t
  all_goals
    fail "dls"
    · exact ⟨hn, hd⟩
    · rename_i sp hs
      exact ⟨hn, hs.1.spr hn hd.sz⟩
    · rename_i sp hs
      exact h _ hs.2
set_option maxHeartbeats 4000000 in
theorem fk_least_tail {P : Program} {w : World} {K : PySem.W.Frag} {mg : Str → Option Value} {base : Heap} {cShare : Addr} (T : Txt K mg cShare) : Fk P w K mg base (wd K cShare) "least_tail" ["numbers", "mean", "at"] 0 dsp_least_tail 10 := by
  obtain ⟨f, fd, F, hm⟩ := T.d_least_tail.ex
  refine ⟨f, fd, fn_D2 F sc_least_tail vi_least_tail gl_least_tail rfl (fun as M Ψ E h => ?_) (fun X as M Ψ E ok own hX hM h => ?_), hm, F.kp, F.binds fun _ _ _ _ _ _ us hl => match us, hl with | [_, _, _], _ => rfl⟩
  · obtain ⟨t, ns, m, a, rfl, hp, h⟩ := h <;> rfl
  have l0 : Lv X "numbers" 0 := ok.lv 0 rfl (by decide) rfl rfl
  have t0 : Ls X "numbers" 0 := ok.ls 0 rfl (by decide)
  have l1 : Lv X "mean" 1 := ok.lv 1 rfl (by decide) rfl rfl
  have t1 : Ls X "mean" 1 := ok.ls 1 rfl (by decide)
  have l2 : Lv X "at" 2 := ok.lv 2 rfl (by decide) rfl rfl
  have t2 : Ls X "at" 2 := ok.ls 2 rfl (by decide)
  have f0 := ok.fc 0 (x := "tail_of") rfl (fk_tail_of T) (by decide) rfl
  have f1 := ok.fc 1 (x := "least_spread") rfl (fk_least_spread T) (by decide) rfl
  have kShare := T.cls_Share
  have sShare : IsF X.K (wd K cShare) 0 := by rw [show X.K = K from ok.kE]; exact T.isf_Share
  have jShare : PySem.W.kitOne X.K (.ref cShare) (.ref cShare) = some true := by rw [show X.K = K from ok.kE]; exact T.kc_Share
  have qShare0 : ((wd K cShare).cf 0)[0]? = some ("over" : Str) := rfl
  have qShare1 : ((wd K cShare).cf 0)[1]? = some ("under" : Str) := rfl
  have calm := ok.calm
  have wk := ok.wk
  obtain ⟨t, ns, m, a, rfl, hp, h⟩ := h
  obtain rfl : M = [] := List.eq_nil_of_length_eq_zero hM
  refine ws_rho (by fail "rho") ?_
  obtain ⟨hn, hd⟩ := hp
  cases t
  all_goals
    fail "dls"
    · exact ⟨hn, hd⟩
    · rename_i sp hs
      exact ⟨hn, hs.1.spr hn hd.sz⟩
    · rename_i sp hs
      exact h _ hs.2
/-! lines above a tail -/
abbrev stp (t x : Int) : Int := if decide (t ≤ x) = true then 1 else 0
def sv (t x y : Int) : Rat := (Rat.divInt (stp t y) 1 - Rat.divInt (stp t x) 1) / Rat.divInt (y - x) 1
def cv (t x y : Int) : Rat := Rat.divInt (stp t x) 1 - sv t x y * Rat.divInt x 1
def below (t : Int) (c s : Rat) (x : Int) : Bool := decide (c + s * Rat.divInt x 1 < Rat.divInt (stp t x) 1)
def lineB (ns : List Int) (t : Int) (c s : Rat) : Bool := !(ns.map (below t c s)).any id
theorem lineB_iff {ns : List Int} {t : Int} {c s : Rat} : lineB ns t c s = true ↔ ∀ x ∈ ns, (stp t x : Rat) ≤ c + s * x := by
  unfold lineB below
  simp only [Bool.not_eq_true', List.any_map, List.any_eq_false, Function.comp, id, decide_eq_true_eq, di_one, Rat.not_lt]
theorem stp_cases (t x : Int) : (t ≤ x ∧ stp t x = 1) ∨ (¬t ≤ x ∧ stp t x = 0) := by
  unfold stp
  by_cases h : t ≤ x
  · exact .inl ⟨h, by rw [decide_eq_true h]; rfl⟩
  · exact .inr ⟨h, by rw [decide_eq_false h]; rfl⟩
theorem stp_val {t x : Int} (q : Rat) : (if t ≤ x then q else 0) = q * (stp t x : Rat) := by
  rcases stp_cases t x with ⟨h, e⟩ | ⟨h, e⟩
  · rw [if_pos h, e]; show q = q * 1; grind
  · rw [if_neg h, e]; show 0 = q * 0; grind
theorem sv_mul {t x y : Int} (h : x < y) : sv t x y * ((y : Rat) - x) = (stp t y : Rat) - stp t x := by
  unfold sv
  have := cast_lt h
  rw [di_one, di_one, di_one, Rat.intCast_sub]
  grind
theorem cv_eq {t x y : Int} : cv t x y = (stp t x : Rat) - sv t x y * x := by
  unfold cv; rw [di_one, di_one]
section
variable {ns : List Int} {m : Rat} {a b : Nat} {x y t : Int}
theorem line_val (h : x < y) : cv t x y + sv t x y * m = val m t x y := by
  have e1 := sv_mul (t := t) h
  have e2 := pv_mul (m := m) h
  unfold val rv
  rw [stp_val, stp_val, cv_eq, one_eq]
  have e3 : sv t x y * (m - x) = pv m x y * ((stp t y : Rat) - stp t x) := by rw [← e1, ← e2]; grind
  grind
theorem dom_val {c s : Rat} (hd : lineB ns t c s = true) (hn : Nums ns) (hp : Pair ns m a b x y) : val m t x y ≤ c + s * m := by
  have hd := lineB_iff.mp hd
  have h1 := hd x (mem_at hp.ax)
  have h2 := hd y (mem_at hp.bx)
  have e2 := pv_mul (m := m) (hp.lt2 hn)
  have h3 := Rat.mul_le_mul_of_nonneg_left h1 hp.r0
  have h4 := Rat.mul_le_mul_of_nonneg_left h2 hp.p0
  unfold val
  rw [stp_val, stp_val]
  have e3 : c + s * m = rv m x y * (c + s * x) + pv m x y * (c + s * y) := by
    unfold rv
    rw [one_eq]
    have : s * (pv m x y * ((y : Rat) - x)) = s * (m - x) := by rw [e2]
    grind
  rw [e3]
  grind
theorem dom_const0 (h : x < y) (hx : stp t x = 0) (hy : stp t y = 0) (ha : ∀ z ∈ ns, stp t z = 0) : lineB ns t (cv t x y) (sv t x y) = true := by
  have e : sv t x y = 0 := by unfold sv; rw [hx, hy]; have := cast_lt h; grind
  refine lineB_iff.mpr fun z hz => ?_
  rw [cv_eq, e, hx, ha z hz]
  show (0 : Rat) ≤ 0 - 0 * x + 0 * z
  grind
theorem dom_const1 (h : x < y) (hx : stp t x = 1) (hy : stp t y = 1) : lineB ns t (cv t x y) (sv t x y) = true := by
  have e : sv t x y = 0 := by unfold sv; rw [hx, hy]; have := cast_lt h; grind
  refine lineB_iff.mpr fun z hz => ?_
  rw [cv_eq, e, hx]
  show _ ≤ 1 - 0 * (x : Rat) + 0 * z
  rcases stp_cases t z with ⟨_, e⟩ | ⟨_, e⟩ <;> rw [e]
  · show (1 : Rat) ≤ _; grind
  · show (0 : Rat) ≤ _; grind
theorem dom_up (h : x < y) (hx : stp t x = 0) (hy : stp t y = 1) (h1 : ∀ z ∈ ns, x ≤ z) (h2 : ∀ z ∈ ns, t ≤ z → y ≤ z) : lineB ns t (cv t x y) (sv t x y) = true := by
  have e := sv_mul (t := t) h
  rw [hx, hy] at e
  have hxy := cast_lt h
  have e : sv t x y * ((y : Rat) - x) = 1 := by rw [e]; show (1 : Rat) - 0 = 1; grind
  have s0 : 0 ≤ sv t x y := by
    by_cases z : 0 ≤ sv t x y
    · exact z
    · exfalso
      have z2 := Rat.not_le.mp z
      have : 0 < (-sv t x y) * ((y : Rat) - x) := Rat.mul_pos (by grind) (by grind)
      grind
  refine lineB_iff.mpr fun z hz => ?_
  rw [cv_eq, hx]
  have e0 : ((0 : Int) : Rat) - sv t x y * x + sv t x y * z = sv t x y * ((z : Rat) - x) := by show (0 : Rat) - _ + _ = _; grind
  rw [e0]
  rcases stp_cases t z with ⟨q, e2⟩ | ⟨_, e2⟩ <;> rw [e2]
  · have := cast_le (h2 z hz q)
    have := Rat.mul_le_mul_of_nonneg_left (show (y : Rat) - x ≤ (z : Rat) - x by grind) s0
    rw [e] at this
    exact this
  · have := cast_le (h1 z hz)
    exact Rat.mul_nonneg s0 (by grind)
theorem asc_le (hn : Nums ns) (ha : ns[a]? = some x) (hb : ns[b]? = some y) (h : a ≤ b) : x ≤ y := by
  by_cases e : a = b
  · subst e; rw [ha] at hb; cases hb; exact Int.le_refl _
  · obtain ⟨l1, g1⟩ := List.getElem?_eq_some_iff.mp ha
    obtain ⟨l2, g2⟩ := List.getElem?_eq_some_iff.mp hb
    rw [← g1, ← g2]
    exact Int.le_of_lt (List.pairwise_iff_getElem.mp hn.asc _ _ l1 l2 (by omega))
theorem asc_lt (hn : Nums ns) (ha : ns[a]? = some x) (hb : ns[b]? = some y) (h : a < b) : x < y := by
  obtain ⟨l1, g1⟩ := List.getElem?_eq_some_iff.mp ha
  obtain ⟨l2, g2⟩ := List.getElem?_eq_some_iff.mp hb
  rw [← g1, ← g2]
  exact List.pairwise_iff_getElem.mp hn.asc _ _ l1 l2 h
theorem Mid.dual (hd : Mid ns m) (hn : Nums ns) (t : Int) : ∃ a b x y, Pair ns m a b x y ∧ lineB ns t (cv t x y) (sv t x y) = true := by
  obtain ⟨x0, xn, h0⟩ := hd.ends hn
  have l2 := h0.lt2 hn
  by_cases hA : ∃ (j : Nat) (z : Int), ns[j]? = some z ∧ t ≤ z
  · -- the first number at t or above
    have hmin : ∀ n : Nat, (∃ j : Nat, j < n ∧ ∃ z : Int, ns[j]? = some z ∧ t ≤ z) → ∃ (j : Nat) (z : Int), ns[j]? = some z ∧ t ≤ z ∧ ∀ (i : Nat) (w : Int), i < j → ns[i]? = some w → ¬t ≤ w := by
      intro n
      induction n with
      | zero => rintro ⟨j, hj, _⟩; omega
      | succ n ih =>
        rintro ⟨j, hj, z, hz, hz2⟩
        by_cases q : ∃ j : Nat, j < n ∧ ∃ z : Int, ns[j]? = some z ∧ t ≤ z
        · exact ih q
        · refine ⟨j, z, hz, hz2, fun i w hi hw hw2 => q ⟨i, by omega, w, hw, hw2⟩⟩
    obtain ⟨j0, z0', hz0, hz1⟩ := hA
    obtain ⟨j, z, hz, hz2, hmn⟩ := hmin (j0 + 1) ⟨j0, by omega, z0', hz0, hz1⟩
    have sz1 : stp t z = 1 := by rcases stp_cases t z with ⟨_, e⟩ | ⟨q, _⟩; exact e; exact absurd hz2 q
    have up : ∀ w ∈ ns, t ≤ w → z ≤ w := by
      intro w hw hw2
      obtain ⟨i, hi⟩ := List.mem_iff_getElem?.mp hw
      by_cases q : i < j
      · exact absurd hw2 (hmn i w q hi)
      · exact asc_le hn hz hi (by omega)
    have lo : ∀ w ∈ ns, x0 ≤ w := by
      intro w hw
      obtain ⟨i, hi⟩ := List.mem_iff_getElem?.mp hw
      exact asc_le hn h0.ax hi (by omega)
    by_cases hj : j = 0
    · subst hj
      rw [h0.ax] at hz; cases hz
      refine ⟨_, _, _, _, h0, dom_const1 l2 sz1 ?_⟩
      rcases stp_cases t xn with ⟨_, e⟩ | ⟨q, _⟩
      · exact e
      · exact absurd (Int.le_trans hz2 (Int.le_of_lt l2)) q
    · have s0 : stp t x0 = 0 := by
        rcases stp_cases t x0 with ⟨q, _⟩ | ⟨_, e⟩
        · exact absurd q (hmn 0 x0 (by omega) h0.ax)
        · exact e
      have l3 := asc_lt hn h0.ax hz (by omega)
      by_cases hm : m ≤ (z : Rat)
      · exact ⟨0, j, x0, z, ⟨by omega, h0.ax, hz, pv_nn l3 (hd.lo x0 h0.ax), rv_nn l3 hm⟩, dom_up l3 s0 sz1 lo up⟩
      · have hm2 := Rat.not_le.mp hm
        have hjn : j < ns.length - 1 := by
          have := lt_at hz
          by_cases q : j = ns.length - 1
          · subst q; exact absurd (hd.hi z hz) hm
          · omega
        have l4 := asc_lt hn hz h0.bx hjn
        refine ⟨j, ns.length - 1, z, xn, ⟨hjn, hz, h0.bx, pv_nn l4 (Rat.le_of_lt hm2), rv_nn l4 (hd.hi xn h0.bx)⟩, dom_const1 l4 sz1 ?_⟩
        rcases stp_cases t xn with ⟨_, e⟩ | ⟨q, _⟩
        · exact e
        · exact absurd (Int.le_trans hz2 (Int.le_of_lt l4)) q
  · have z : ∀ w ∈ ns, stp t w = 0 := by
      intro w hw
      obtain ⟨i, hi⟩ := List.mem_iff_getElem?.mp hw
      rcases stp_cases t w with ⟨q, _⟩ | ⟨_, e⟩
      · exact absurd ⟨i, w, hi, q⟩ hA
      · exact e
    exact ⟨_, _, _, _, h0, dom_const0 l2 (z _ (mem_at h0.ax)) (z _ (mem_at h0.bx)) z⟩
theorem IsG.line {g : Rat} (h : IsG ns m t g) (hn : Nums ns) (hp : Pair ns m a b x y) (hl : lineB ns t (cv t x y) (sv t x y) = true) : cv t x y + sv t x y * m = g := by
  have h1 := h.2 _ _ _ _ hp
  rw [← line_val (hp.lt2 hn)] at h1
  obtain ⟨c, d, u, v, hq, e⟩ := h.1
  have h2 := dom_val hl hn hq
  rw [← e] at h2
  exact Rat.le_antisymm h1 h2
theorem sz_stp : Sz 1 (Rat.divInt (stp t x) 1) := by
  rcases stp_cases t x with ⟨_, e⟩ | ⟨_, e⟩ <;> rw [e]
  · rw [one_eq]; exact sz_one
  · rw [show Rat.divInt 0 1 = 0 from di01]; exact sz_zero
theorem sz_sv (hx : Bd 67 x) (hy : Bd 67 y) (h : x < y) : Sz 71 (sv t x y) := by
  have h2 : Sz 68 (Rat.divInt (y - x) 1) := by rw [di_one]; exact sz_int (bd_sub67 hx hy) (by decide)
  refine ((sz_stp.sub sz_stp).div h2 ?_).mono (by decide)
  rw [di_one]
  exact Rat.intCast_pos.mpr (by omega)
theorem sz_cv (hx : Bd 67 x) (hy : Bd 67 y) (h : x < y) : Sz 140 (cv t x y) := by
  have h1 : Sz 67 (Rat.divInt x 1) := by rw [di_one]; exact sz_int hx (by decide)
  exact (sz_stp.sub ((sz_sv hx hy h).mul h1)).mono (by decide)
end
abbrev lnD (l : Rat × Rat) : D := .tup [shQ l.1, shQ l.2]
theorem lnD_inj : ∀ x y : Rat × Rat, lnD x = lnD y → x = y := by
  rintro ⟨a, b⟩ ⟨c, d⟩ e
  injection e with e
  injection e with e1 e2
  injection e2 with e3 e4
  cases shQ_inj _ _ e1
  cases shQ_inj _ _ e3
  rfl
theorem put_ln (ls : List (Rat × Rat)) (c s : Rat) : ls.map lnD ++ [D.tup [shQ c, shQ s]] = (ls ++ [(c, s)]).map lnD := by rw [List.map_append]; rfl
theorem fm_filter {α : Type} {f : α → D} {p : α → Bool} (xs : List α) : xs.filterMap (fun x => if p x = true then some (f x) else none) = (xs.filter p).map f := by
  induction xs with
  | nil => rfl
  | cons x xs ih =>
    rw [List.filterMap_cons, List.filter_cons]
    by_cases h : p x = true
    · simp only [h, if_true, List.map_cons, ih]
    · simp [h, ih]
structure Ls2 (ns : List Int) (t : Int) (P : Nat → Nat → Prop) (ls : List (Rat × Rat)) : Prop where
  sz : ∀ l ∈ ls, Sz 140 l.1 ∧ Sz 140 l.2
  all : ∀ (b c : Nat) (x y : Int), b < c → ns[b]? = some x → ns[c]? = some y → P b c → (cv t x y, sv t x y) ∈ ls
theorem Ls2.put {ns : List Int} {t : Int} {P : Nat → Nat → Prop} {ls : List (Rat × Rat)} {a b : Nat} {x y : Int} (h : Ls2 ns t P ls) (hx : ns[a]? = some x) (hy : ns[b]? = some y) (hs : Sz 140 (cv t x y) ∧ Sz 140 (sv t x y)) (P' : Nat → Nat → Prop) (hP : ∀ c d, P' c d → P c d ∨ (c = a ∧ d = b)) : Ls2 ns t P' (ls ++ [(cv t x y, sv t x y)]) := by
  refine ⟨fun l hl => ?_, fun c d u v hq e1 e2 hc => ?_⟩
  · rcases List.mem_append.mp hl with e | e
    · exact h.sz l e
    · simp at e; rw [e]; exact hs
  · rcases hP c d hc with e | ⟨rfl, rfl⟩
    · exact List.mem_append_left _ (h.all c d u v hq e1 e2 e)
    · have q1 := hx.symm.trans e1
      have q2 := hy.symm.trans e2
      cases q1; cases q2
      simp
theorem at_last {ns : List Int} {y : Int} (h : ns[ns.length - 1]? = some y) : atI (ns.map D.int) (-1) = some (.int y) := by
  have := lt_at h
  unfold atI ixN
  rw [if_neg (by decide), if_pos (by simp; omega)]
  have e : ((-1 : Int) + ((ns.map D.int).length : Nat)).toNat = ns.length - 1 := by simp; omega
  rw [e]
  simp only [Option.bind_some, List.getElem?_map, h]
  rfl
def dsp__line_at : DSp := fun as M Ψ _ => ∃ (t : Bool) (c : Rat) (s : Rat) (x : Rat), as = [.d (sqD t [shQ c, shQ s]), .d (shQ x)] ∧ (Sz 1000 c ∧ Sz 1000 s ∧ Sz 1000 x) ∧ Ψ (.d (shQ (c + s * x))) M
theorem ca_la0 {C : Dl.Ctx} {ρ : Rho} {M : Mm} {Ψ : AV → Mm → Prop} {c : Rat} {s : Rat} {x : Rat} (hp : Sz 1000 c ∧ Sz 1000 s ∧ Sz 1000 x) (h : Ψ (.d (shQ (c + s * x))) M) : call0 C ρ dsp__line_at [.d (.lst [shQ c, shQ s]), .d (shQ x)] M Ψ := ⟨false, c, s, x, rfl, hp, (by show Ψ _ (M ++ []); rw [List.append_nil]; exact h)⟩
theorem ca_la1 {C : Dl.Ctx} {ρ : Rho} {M : Mm} {Ψ : AV → Mm → Prop} {c : Rat} {s : Rat} {x : Rat} (hp : Sz 1000 c ∧ Sz 1000 s ∧ Sz 1000 x) (h : Ψ (.d (shQ (c + s * x))) M) : call0 C ρ dsp__line_at [.d (.tup [shQ c, shQ s]), .d (shQ x)] M Ψ := ⟨true, c, s, x, rfl, hp, (by show Ψ _ (M ++ []); rw [List.append_nil]; exact h)⟩
local macro_rules | `(tactic| fail "dl_u") => `(tactic| with_reducible refine Lw.ca_la0 ?_ ?_)
local macro_rules | `(tactic| fail "dl_u") => `(tactic| with_reducible refine Lw.ca_la1 ?_ ?_)
def dsp_is_line : DSp := fun as M Ψ _ => ∃ (t : Bool) (u : Bool) (ns : List Int) (a : Int) (c : Rat) (s : Rat), as = [.d (sqD t (ns.map .int)), .d (.int a), .d (sqD u [shQ c, shQ s])] ∧ (Nums ns ∧ Sz 1000 c ∧ Sz 1000 s) ∧ Ψ (.d (.bl (lineB ns a c s))) M
theorem ca_il00 {C : Dl.Ctx} {ρ : Rho} {M : Mm} {Ψ : AV → Mm → Prop} {ns : List Int} {a : Int} {c : Rat} {s : Rat} (hp : Nums ns ∧ Sz 1000 c ∧ Sz 1000 s) (h : Ψ (.d (.bl (lineB ns a c s))) M) : call0 C ρ dsp_is_line [.d (.lst (ns.map .int)), .d (.int a), .d (.lst [shQ c, shQ s])] M Ψ := ⟨false, false, ns, a, c, s, rfl, hp, (by show Ψ _ (M ++ []); rw [List.append_nil]; exact h)⟩
theorem ca_il01 {C : Dl.Ctx} {ρ : Rho} {M : Mm} {Ψ : AV → Mm → Prop} {ns : List Int} {a : Int} {c : Rat} {s : Rat} (hp : Nums ns ∧ Sz 1000 c ∧ Sz 1000 s) (h : Ψ (.d (.bl (lineB ns a c s))) M) : call0 C ρ dsp_is_line [.d (.lst (ns.map .int)), .d (.int a), .d (.tup [shQ c, shQ s])] M Ψ := ⟨false, true, ns, a, c, s, rfl, hp, (by show Ψ _ (M ++ []); rw [List.append_nil]; exact h)⟩
theorem ca_il10 {C : Dl.Ctx} {ρ : Rho} {M : Mm} {Ψ : AV → Mm → Prop} {ns : List Int} {a : Int} {c : Rat} {s : Rat} (hp : Nums ns ∧ Sz 1000 c ∧ Sz 1000 s) (h : Ψ (.d (.bl (lineB ns a c s))) M) : call0 C ρ dsp_is_line [.d (.tup (ns.map .int)), .d (.int a), .d (.lst [shQ c, shQ s])] M Ψ := ⟨true, false, ns, a, c, s, rfl, hp, (by show Ψ _ (M ++ []); rw [List.append_nil]; exact h)⟩
theorem ca_il11 {C : Dl.Ctx} {ρ : Rho} {M : Mm} {Ψ : AV → Mm → Prop} {ns : List Int} {a : Int} {c : Rat} {s : Rat} (hp : Nums ns ∧ Sz 1000 c ∧ Sz 1000 s) (h : Ψ (.d (.bl (lineB ns a c s))) M) : call0 C ρ dsp_is_line [.d (.tup (ns.map .int)), .d (.int a), .d (.tup [shQ c, shQ s])] M Ψ := ⟨true, true, ns, a, c, s, rfl, hp, (by show Ψ _ (M ++ []); rw [List.append_nil]; exact h)⟩
local macro_rules | `(tactic| fail "dl_u") => `(tactic| with_reducible refine Lw.ca_il00 ?_ ?_)
local macro_rules | `(tactic| fail "dl_u") => `(tactic| with_reducible refine Lw.ca_il01 ?_ ?_)
local macro_rules | `(tactic| fail "dl_u") => `(tactic| with_reducible refine Lw.ca_il10 ?_ ?_)
local macro_rules | `(tactic| fail "dl_u") => `(tactic| with_reducible refine Lw.ca_il11 ?_ ?_)
def dsp__lines_through : DSp := fun as M Ψ _ => ∃ (t : Bool) (ns : List Int) (a : Int), as = [.d (sqD t (ns.map .int)), .d (.int a)] ∧ (Nums ns) ∧ ∀ (ls : List (Rat × Rat)), (ls.length ≤ 64 ∧ (∀ l ∈ ls, Sz 140 l.1 ∧ Sz 140 l.2) ∧ ∀ (b c : Nat) (x y : Int), b < c → ns[b]? = some x → ns[c]? = some y → (cv a x y, sv a x y) ∈ ls) → Ψ (.d (.lst (ls.map lnD))) M
theorem ca_lth0 {C : Dl.Ctx} {ρ : Rho} {M : Mm} {Ψ : AV → Mm → Prop} {ns : List Int} {a : Int} (hp : Nums ns) (h : ∀ (ls : List (Rat × Rat)), (ls.length ≤ 64 ∧ (∀ l ∈ ls, Sz 140 l.1 ∧ Sz 140 l.2) ∧ ∀ (b c : Nat) (x y : Int), b < c → ns[b]? = some x → ns[c]? = some y → (cv a x y, sv a x y) ∈ ls) → Ψ (.d (.lst (ls.map lnD))) M) : call0 C ρ dsp__lines_through [.d (.lst (ns.map .int)), .d (.int a)] M Ψ := ⟨false, ns, a, rfl, hp, fun ls hq => (by show Ψ _ (M ++ []); rw [List.append_nil]; exact h ls hq)⟩
theorem ca_lth1 {C : Dl.Ctx} {ρ : Rho} {M : Mm} {Ψ : AV → Mm → Prop} {ns : List Int} {a : Int} (hp : Nums ns) (h : ∀ (ls : List (Rat × Rat)), (ls.length ≤ 64 ∧ (∀ l ∈ ls, Sz 140 l.1 ∧ Sz 140 l.2) ∧ ∀ (b c : Nat) (x y : Int), b < c → ns[b]? = some x → ns[c]? = some y → (cv a x y, sv a x y) ∈ ls) → Ψ (.d (.lst (ls.map lnD))) M) : call0 C ρ dsp__lines_through [.d (.tup (ns.map .int)), .d (.int a)] M Ψ := ⟨true, ns, a, rfl, hp, fun ls hq => (by show Ψ _ (M ++ []); rw [List.append_nil]; exact h ls hq)⟩
local macro_rules | `(tactic| fail "dl_u") => `(tactic| with_reducible refine Lw.ca_lth0 ?_ fun ls hq => ?_)
local macro_rules | `(tactic| fail "dl_u") => `(tactic| with_reducible refine Lw.ca_lth1 ?_ fun ls hq => ?_)
def dsp_tail_line : DSp := fun as M Ψ _ => ∃ (t : Bool) (ns : List Int) (m : Rat) (a : Int), as = [.d (sqD t (ns.map .int)), .d (shQ m), .d (.int a)] ∧ (Nums ns ∧ Mid ns m) ∧ ∀ (c : Rat) (s : Rat) (g : Rat), (IsG ns m a g ∧ lineB ns a c s = true ∧ c + s * m = g ∧ Sz 140 c ∧ Sz 140 s) → Ψ (.d (lnD (c, s))) M
theorem ca_tli0 {C : Dl.Ctx} {ρ : Rho} {M : Mm} {Ψ : AV → Mm → Prop} {ns : List Int} {m : Rat} {a : Int} (hp : Nums ns ∧ Mid ns m) (h : ∀ (c : Rat) (s : Rat) (g : Rat), (IsG ns m a g ∧ lineB ns a c s = true ∧ c + s * m = g ∧ Sz 140 c ∧ Sz 140 s) → Ψ (.d (lnD (c, s))) M) : call0 C ρ dsp_tail_line [.d (.lst (ns.map .int)), .d (shQ m), .d (.int a)] M Ψ := ⟨false, ns, m, a, rfl, hp, fun c s g hq => (by show Ψ _ (M ++ []); rw [List.append_nil]; exact h c s g hq)⟩
theorem ca_tli1 {C : Dl.Ctx} {ρ : Rho} {M : Mm} {Ψ : AV → Mm → Prop} {ns : List Int} {m : Rat} {a : Int} (hp : Nums ns ∧ Mid ns m) (h : ∀ (c : Rat) (s : Rat) (g : Rat), (IsG ns m a g ∧ lineB ns a c s = true ∧ c + s * m = g ∧ Sz 140 c ∧ Sz 140 s) → Ψ (.d (lnD (c, s))) M) : call0 C ρ dsp_tail_line [.d (.tup (ns.map .int)), .d (shQ m), .d (.int a)] M Ψ := ⟨true, ns, m, a, rfl, hp, fun c s g hq => (by show Ψ _ (M ++ []); rw [List.append_nil]; exact h c s g hq)⟩
local macro_rules | `(tactic| fail "dl_u") => `(tactic| with_reducible refine Lw.ca_tli0 ?_ fun c s g hq => ?_)
local macro_rules | `(tactic| fail "dl_u") => `(tactic| with_reducible refine Lw.ca_tli1 ?_ fun c s g hq => ?_)
def dsp_greatest_square : DSp := fun as M Ψ _ => ∃ (t : Bool) (ns : List Int) (m : Rat), as = [.d (sqD t (ns.map .int)), .d (shQ m)] ∧ (Nums ns ∧ Mid ns m) ∧ ∀ (x : Int) (y : Int), (ns[0]? = some x ∧ ns[ns.length - 1]? = some y) → Ψ (.d (shQ ((m - Rat.divInt x 1) * (Rat.divInt y 1 - m)))) M
theorem ca_gsq0 {C : Dl.Ctx} {ρ : Rho} {M : Mm} {Ψ : AV → Mm → Prop} {ns : List Int} {m : Rat} (hp : Nums ns ∧ Mid ns m) (h : ∀ (x : Int) (y : Int), (ns[0]? = some x ∧ ns[ns.length - 1]? = some y) → Ψ (.d (shQ ((m - Rat.divInt x 1) * (Rat.divInt y 1 - m)))) M) : call0 C ρ dsp_greatest_square [.d (.lst (ns.map .int)), .d (shQ m)] M Ψ := ⟨false, ns, m, rfl, hp, fun x y hq => (by show Ψ _ (M ++ []); rw [List.append_nil]; exact h x y hq)⟩
theorem ca_gsq1 {C : Dl.Ctx} {ρ : Rho} {M : Mm} {Ψ : AV → Mm → Prop} {ns : List Int} {m : Rat} (hp : Nums ns ∧ Mid ns m) (h : ∀ (x : Int) (y : Int), (ns[0]? = some x ∧ ns[ns.length - 1]? = some y) → Ψ (.d (shQ ((m - Rat.divInt x 1) * (Rat.divInt y 1 - m)))) M) : call0 C ρ dsp_greatest_square [.d (.tup (ns.map .int)), .d (shQ m)] M Ψ := ⟨true, ns, m, rfl, hp, fun x y hq => (by show Ψ _ (M ++ []); rw [List.append_nil]; exact h x y hq)⟩
local macro_rules | `(tactic| fail "dl_u") => `(tactic| with_reducible refine Lw.ca_gsq0 ?_ fun x y hq => ?_)
local macro_rules | `(tactic| fail "dl_u") => `(tactic| with_reducible refine Lw.ca_gsq1 ?_ fun x y hq => ?_)
set_option maxHeartbeats 4000000 in
theorem fk__line_at {P : Program} {w : World} {K : PySem.W.Frag} {mg : Str → Option Value} {base : Heap} {cShare : Addr} (T : Txt K mg cShare) : Fk P w K mg base (wd K cShare) "_line_at" ["line", "place"] 0 dsp__line_at 5 := by
  obtain ⟨f, fd, F, hm⟩ := T.d__line_at.ex
  refine ⟨f, fd, fn_D2 F sc__line_at vi__line_at gl__line_at rfl (fun as M Ψ E h => ?_) (fun X as M Ψ E ok own hX hM h => ?_), hm, F.kp, F.binds fun _ _ _ _ _ _ us hl => match us, hl with | [_, _], _ => rfl⟩
  · obtain ⟨t, c, s, x, rfl, hp, h⟩ := h <;> rfl
  have l0 : Lv X "line" 0 := ok.lv 0 rfl (by decide) rfl rfl
  have t0 : Ls X "line" 0 := ok.ls 0 rfl (by decide)
  have l1 : Lv X "place" 1 := ok.lv 1 rfl (by decide) rfl rfl
  have t1 : Ls X "place" 1 := ok.ls 1 rfl (by decide)
  have kShare := T.cls_Share
  have sShare : IsF X.K (wd K cShare) 0 := by rw [show X.K = K from ok.kE]; exact T.isf_Share
  have jShare : PySem.W.kitOne X.K (.ref cShare) (.ref cShare) = some true := by rw [show X.K = K from ok.kE]; exact T.kc_Share
  have qShare0 : ((wd K cShare).cf 0)[0]? = some ("over" : Str) := rfl
  have qShare1 : ((wd K cShare).cf 0)[1]? = some ("under" : Str) := rfl
  have e_Share_add := fk_Share_add (P := P) (w := w) (base := base) T
  have e_Share_mul := fk_Share_mul (P := P) (w := w) (base := base) T
  have calm := ok.calm
  have wk := ok.wk
  obtain ⟨t, c, s, x, rfl, hp, h⟩ := h
  obtain rfl : M = [] := List.eq_nil_of_length_eq_zero hM
  refine ws_rho (by fail "rho") ?_
  obtain ⟨h1, h2, h3⟩ := hp
  cases t
  all_goals
    fail "dls"
    · exact ⟨h2.mono (by decide), h3.mono (by decide)⟩
    · exact ⟨h1.mono (by decide), (h2.mul h3).mono (by decide)⟩
    · exact h
set_option maxHeartbeats 4000000 in
theorem fk_is_line {P : Program} {w : World} {K : PySem.W.Frag} {mg : Str → Option Value} {base : Heap} {cShare : Addr} (T : Txt K mg cShare) : Fk P w K mg base (wd K cShare) "is_line" ["numbers", "at", "line"] 0 dsp_is_line 6 := by
  obtain ⟨f, fd, F, hm⟩ := T.d_is_line.ex
  refine ⟨f, fd, fn_D2 F sc_is_line vi_is_line gl_is_line rfl (fun as M Ψ E h => ?_) (fun X as M Ψ E ok own hX hM h => ?_), hm, F.kp, F.binds fun _ _ _ _ _ _ us hl => match us, hl with | [_, _, _], _ => rfl⟩
  · obtain ⟨t, u, ns, a, c, s, rfl, hp, h⟩ := h <;> rfl
  have l0 : Lv X "numbers" 0 := ok.lv 0 rfl (by decide) rfl rfl
  have t0 : Ls X "numbers" 0 := ok.ls 0 rfl (by decide)
  have l1 : Lv X "at" 1 := ok.lv 1 rfl (by decide) rfl rfl
  have t1 : Ls X "at" 1 := ok.ls 1 rfl (by decide)
  have l2 : Lv X "line" 2 := ok.lv 2 rfl (by decide) rfl rfl
  have t2 : Ls X "line" 2 := ok.ls 2 rfl (by decide)
  have c3 : (N_is_line)[3]? = some ("number" : Str) := rfl
  have fx0 := ok.fx (x := "_line_at") (fk__line_at T) (by decide) rfl
  have fx1 := ok.cx (x := "Share") (c := 0) (fk_Share_init T) (by decide) rfl
  have bx2 : Tx X "int" "int" := ok.tx T.b_int rfl (by decide) rfl
  have f0 := ok.fc 0 (x := "check_numbers") rfl (fk_check_numbers T) (by decide) rfl
  have b1 : Bk X "any" "any" := ok.bk 1 rfl T.b_any rfl (by decide) rfl
  have kShare := T.cls_Share
  have sShare : IsF X.K (wd K cShare) 0 := by rw [show X.K = K from ok.kE]; exact T.isf_Share
  have jShare : PySem.W.kitOne X.K (.ref cShare) (.ref cShare) = some true := by rw [show X.K = K from ok.kE]; exact T.kc_Share
  have qShare0 : ((wd K cShare).cf 0)[0]? = some ("over" : Str) := rfl
  have qShare1 : ((wd K cShare).cf 0)[1]? = some ("under" : Str) := rfl
  have e_Share_is_below := ok.mc (fk_Share_is_below (P := P) (w := w) (base := base) T) (by decide) T.cls_Share (by show ¬ ("is_below" : Str) ∈ (["over", "under"] : List Str); decide)
  have calm := ok.calm
  have wk := ok.wk
  obtain ⟨t, u, ns, a, c, s, rfl, hp, h⟩ := h
  obtain rfl : M = [] := List.eq_nil_of_length_eq_zero hM
  refine ws_rho (by fail "rho") ?_
  obtain ⟨hn, h1, h2⟩ := hp
  have h8 := hn.hi
  have hl : (ns.map D.int).length = ns.length := by simp
  cases t
  all_goals cases u
  all_goals
    fail "dls"
    · exact hn
    refine we_lcO [("number", 3)] [3] (by fail "ok") hX (by decide +kernel) ?_
    fail "dls"
    refine ⟨by omega, gOf D.int (fun x => some (.bl (below a c s x))), ?_, ?_⟩
    · intro j d hd
      obtain ⟨x, hx, rfl⟩ := map_at hd
      rw [gOf_at int_inj]
      have szx : Sz 67 (Rat.divInt x 1) := by rw [di_one]; exact sz_int (hn.bd67 (mem_at hx)) (by decide)
      fail "dls"
      all_goals first
        | exact ⟨by decide, bd_one (by decide)⟩
        | exact ⟨h1, h2, szx.mono (by decide)⟩
        | exact ⟨(h1.add (h2.mul szx)).mono (by decide), sz_stp.mono (by decide)⟩
        | rfl
    rw [gOf_map int_inj, fm_some, show (fun x => D.bl (below a c s x)) = D.bl ∘ below a c s from rfl, ← List.map_map]
    fail "dls"
    refine wc_any (by fail "as") (by fail "as") (ns := ns.map (below a c s)) (by rfl) ?_
    fail "dls"
    exact h
set_option maxHeartbeats 4000000 in
theorem fk__lines_through {P : Program} {w : World} {K : PySem.W.Frag} {mg : Str → Option Value} {base : Heap} {cShare : Addr} (T : Txt K mg cShare) : Fk P w K mg base (wd K cShare) "_lines_through" ["numbers", "at"] 0 dsp__lines_through 5 := by
  obtain ⟨f, fd, F, hm⟩ := T.d__lines_through.ex
  refine ⟨f, fd, fn_D2 F sc__lines_through vi__lines_through gl__lines_through rfl (fun as M Ψ E h => ?_) (fun X as M Ψ E ok own hX hM h => ?_), hm, F.kp, F.binds fun _ _ _ _ _ _ us hl => match us, hl with | [_, _], _ => rfl⟩
  · obtain ⟨t, ns, a, rfl, hp, h⟩ := h <;> rfl
  have l0 : Lv X "numbers" 0 := ok.lv 0 rfl (by decide) rfl rfl
  have t0 : Ls X "numbers" 0 := ok.ls 0 rfl (by decide)
  have l1 : Lv X "at" 1 := ok.lv 1 rfl (by decide) rfl rfl
  have t1 : Ls X "at" 1 := ok.ls 1 rfl (by decide)
  have l2 : Lv X "found" 2 := ok.lv 2 rfl (by decide) rfl rfl
  have t2 : Ls X "found" 2 := ok.ls 2 rfl (by decide)
  have l3 : Lv X "high" 3 := ok.lv 3 rfl (by decide) rfl rfl
  have t3 : Ls X "high" 3 := ok.ls 3 rfl (by decide)
  have l4 : Lv X "number" 4 := ok.lv 4 rfl (by decide) rfl rfl
  have t4 : Ls X "number" 4 := ok.ls 4 rfl (by decide)
  have l5 : Lv X "other" 5 := ok.lv 5 rfl (by decide) rfl rfl
  have t5 : Ls X "other" 5 := ok.ls 5 rfl (by decide)
  have l6 : Lv X "base" 6 := ok.lv 6 rfl (by decide) rfl rfl
  have t6 : Ls X "base" 6 := ok.ls 6 rfl (by decide)
  have l7 : Lv X "slope" 7 := ok.lv 7 rfl (by decide) rfl rfl
  have t7 : Ls X "slope" 7 := ok.ls 7 rfl (by decide)
  have b0 : Bt X "enumerate" "enumerate" := ok.bt 0 rfl T.b_enumerate rfl (by decide) rfl
  have e0 : (g__lines_through)[0]? = some ("enumerate" : Str) := rfl
  have m0 : mg "enumerate" = none := T.b_enumerate
  have f1 := ok.cc 1 (x := "Share") (c := 0) rfl (fk_Share_init T) (by decide) rfl
  have b2 : Bt X "int" "int" := ok.bt 2 rfl T.b_int rfl (by decide) rfl
  have kShare := T.cls_Share
  have sShare : IsF X.K (wd K cShare) 0 := by rw [show X.K = K from ok.kE]; exact T.isf_Share
  have jShare : PySem.W.kitOne X.K (.ref cShare) (.ref cShare) = some true := by rw [show X.K = K from ok.kE]; exact T.kc_Share
  have qShare0 : ((wd K cShare).cf 0)[0]? = some ("over" : Str) := rfl
  have qShare1 : ((wd K cShare).cf 0)[1]? = some ("under" : Str) := rfl
  have e_Share_sub := fk_Share_sub (P := P) (w := w) (base := base) T
  have e_Share_mul := fk_Share_mul (P := P) (w := w) (base := base) T
  have e_Share_by := ok.mc (fk_Share_by (P := P) (w := w) (base := base) T) (by decide) T.cls_Share (by show ¬ ("by" : Str) ∈ (["over", "under"] : List Str); decide)
  have calm := ok.calm
  have wk := ok.wk
  obtain ⟨t, ns, a, rfl, hp, h⟩ := h
  obtain rfl : M = [] := List.eq_nil_of_length_eq_zero hM
  refine ws_rho (by fail "rho") ?_
  have hn := hp
  have h8 := hn.hi
  have hl : (ns.map D.int).length = ns.length := by simp
  cases t
  all_goals
    fail "dls"
    refine w1_for ok own ?_
    fail "dls"
    refine ⟨fun i ρ M => ∃ (ls : List (Rat × Rat)) (y3 y4 y5 y6 y7 : Option AV) (R : Mm), ρ = [_, some (.d (.int a)), some (.m 0), y3, y4, y5, y6, y7] ∧ M = .l (ls.map lnD) :: R ∧ ls.length ≤ 8 * i ∧ Ls2 ns a (fun _ c => c < i) ls, ⟨[], _, _, _, _, _, _, rfl, rfl, by simp, by simp, fun b c x y _ _ _ z => absurd z (by omega)⟩, ?_, ?_⟩
    · rintro i d ρ' M' hi hd ⟨ls, y3, y4, y5, y6, y7, R, rfl, rfl, hfl, hf⟩
      obtain ⟨d, hd2, rfl⟩ := enD_at hd
      obtain ⟨y, hy, rfl⟩ := map_at hd2
      fail "dlg"
      refine ws_forget 1 [_, some (.d (.int a)), some (.m 0), some (.d (.int (i : Nat))), some (.d (.int y)), none, none, none] [.l (ls.map lnD)] (by rfl) (by fail "ler") (by rfl) (by rfl) ?_
      have hi2 := lt_at hy
      have hcut : cutA (ns.map D.int) none (some (i : Int)) = (ns.take i).map D.int := by rw [cut_to, List.map_take]
      fail "dls"
      refine w1_for (ok.at _) own ?_
      fail "dls"
      rw [hcut]
      refine ⟨fun k ρ M => ∃ (ls : List (Rat × Rat)) (y5 y6 y7 : Option AV) (R : Mm), ρ = [_, some (.d (.int a)), some (.m 0), some (.d (.int (i : Nat))), some (.d (.int y)), y5, y6, y7] ∧ M = .l (ls.map lnD) :: R ∧ ls.length ≤ 8 * i + k ∧ Ls2 ns a (fun b c => c < i ∨ c = i ∧ b < k) ls, ⟨ls, _, _, _, _, rfl, rfl, by omega, hf.1, fun b c x y q e1 e2 z => hf.2 b c x y q e1 e2 (by omega)⟩, ?_, ?_⟩
      · rintro k d ρ' M' hk hd ⟨ls, y5, y6, y7, R, rfl, rfl, hfl, hf⟩
        obtain ⟨x, hx, rfl⟩ := map_at hd
        have hki : k < i := by have := lt_at hx; simp at this; omega
        rw [List.getElem?_take_of_lt hki] at hx
        fail "dlg"
        refine ws_forget 1 [_, some (.d (.int a)), some (.m 0), some (.d (.int (i : Nat))), some (.d (.int y)), some (.d (.int x)), none, none] [.l (ls.map lnD)] (by rfl) (by fail "ler") (by rfl) (by rfl) ?_
        have hxy : x < y := asc_lt hn hx hy hki
        have bx := hn.bd67 (mem_at hx)
        have by' := hn.bd67 (mem_at hy)
        have szx : Sz 67 (Rat.divInt x 1) := by rw [di_one]; exact sz_int bx (by decide)
        have szd : Sz 68 (Rat.divInt (y - x) 1) := by rw [di_one]; exact sz_int (bd_sub67 bx by') (by decide)
        have szp : Sz 71 (sv a x y) := sz_sv bx by' hxy
        have psd : 0 < Rat.divInt (y - x) 1 := by
          rw [di_one]
          exact Rat.intCast_pos.mpr (by omega)
        fail "dls"
        all_goals first
          | exact ⟨by decide, bd_one (by decide)⟩
          | exact ⟨sz_stp.mono (by decide), sz_stp.mono (by decide)⟩
          | exact ⟨psd, (sz_stp.sub sz_stp).mono (by decide), szd.mono (by decide)⟩
          | exact ⟨szp.mono (by decide), szx.mono (by decide)⟩
          | exact ⟨sz_stp.mono (by decide), (szp.mul szx).mono (by decide)⟩
          | (rw [List.length_map]; omega)
          | skip
        rw [put_ln]
        exact ⟨ls ++ [(cv a x y, sv a x y)], _, _, _, _, rfl, rfl, by simp; omega, hf.put hx hy ⟨sz_cv bx by' hxy, sz_sv bx by' hxy |>.mono (by decide)⟩ _ fun c d z => by omega⟩
      · rintro ρ' M' ⟨ls, y5, y6, y7, R, rfl, rfl, hfl, hf⟩
        have hlk : ((ns.take i).map D.int).length = i := by rw [List.length_map, List.length_take]; omega
        rw [hlk] at hfl hf
        exact ⟨ls, _, _, _, _, _, R, rfl, rfl, by omega, hf.1, fun b c x y q e1 e2 z => hf.2 b c x y q e1 e2 (by omega)⟩
    · rintro ρ' M' ⟨ls, y3, y4, y5, y6, y7, R, rfl, rfl, hfl, hf⟩
      rw [enD_len, hl] at hfl hf
      fail "dls"
      exact h ls ⟨by omega, hf.1, fun b c x y q e1 e2 => hf.2 b c x y q e1 e2 (lt_at e2)⟩
set_option maxHeartbeats 4000000 in
theorem fk_tail_line {P : Program} {w : World} {K : PySem.W.Frag} {mg : Str → Option Value} {base : Heap} {cShare : Addr} (T : Txt K mg cShare) : Fk P w K mg base (wd K cShare) "tail_line" ["numbers", "mean", "at"] 0 dsp_tail_line 11 := by
  obtain ⟨f, fd, F, hm⟩ := T.d_tail_line.ex
  refine ⟨f, fd, fn_D2 F sc_tail_line vi_tail_line gl_tail_line rfl (fun as M Ψ E h => ?_) (fun X as M Ψ E ok own hX hM h => ?_), hm, F.kp, F.binds fun _ _ _ _ _ _ us hl => match us, hl with | [_, _, _], _ => rfl⟩
  · obtain ⟨t, ns, m, a, rfl, hp, h⟩ := h <;> rfl
  have l0 : Lv X "numbers" 0 := ok.lv 0 rfl (by decide) rfl rfl
  have t0 : Ls X "numbers" 0 := ok.ls 0 rfl (by decide)
  have l1 : Lv X "mean" 1 := ok.lv 1 rfl (by decide) rfl rfl
  have t1 : Ls X "mean" 1 := ok.ls 1 rfl (by decide)
  have l2 : Lv X "at" 2 := ok.lv 2 rfl (by decide) rfl rfl
  have t2 : Ls X "at" 2 := ok.ls 2 rfl (by decide)
  have l3 : Lv X "most" 3 := ok.lv 3 rfl (by decide) rfl rfl
  have t3 : Ls X "most" 3 := ok.ls 3 rfl (by decide)
  have l4 : Lv X "lines" 4 := ok.lv 4 rfl (by decide) rfl rfl
  have t4 : Ls X "lines" 4 := ok.ls 4 rfl (by decide)
  have z4 : FzV 4 := ⟨⟩
  have c5 : (N_tail_line)[5]? = some ("line" : Str) := rfl
  have fx0 := ok.fx (x := "is_line") (fk_is_line T) (by decide) rfl
  have fx1 := ok.fx (x := "_line_at") (fk__line_at T) (by decide) rfl
  have f0 := ok.fc 0 (x := "greatest_tail") rfl (fk_greatest_tail T) (by decide) rfl
  have f1 := ok.fc 1 (x := "_lines_through") rfl (fk__lines_through T) (by decide) rfl
  have kShare := T.cls_Share
  have sShare : IsF X.K (wd K cShare) 0 := by rw [show X.K = K from ok.kE]; exact T.isf_Share
  have jShare : PySem.W.kitOne X.K (.ref cShare) (.ref cShare) = some true := by rw [show X.K = K from ok.kE]; exact T.kc_Share
  have qShare0 : ((wd K cShare).cf 0)[0]? = some ("over" : Str) := rfl
  have qShare1 : ((wd K cShare).cf 0)[1]? = some ("under" : Str) := rfl
  have e_Share_eq := fk_Share_eq (P := P) (w := w) (base := base) T
  have calm := ok.calm
  have wk := ok.wk
  obtain ⟨t, ns, m, a, rfl, hp, h⟩ := h
  obtain rfl : M = [] := List.eq_nil_of_length_eq_zero hM
  refine ws_rho (by fail "rho") ?_
  obtain ⟨hn, hd⟩ := hp
  have hz := hd.sz
  cases t
  all_goals
    fail "dls"
    · exact ⟨hn, hd⟩
    rename_i g hg
    have szg := IsG.sz (.inl hg) hn hz
    obtain ⟨pa, pb, x, y, hpr, hdom⟩ := hd.dual hn a
    have hv := hg.line hn hpr hdom
    refine w1_sLc [("line", 5)] [5] (by fail "as") (by fail "ok") hX (by decide +kernel) rfl (by intros; rfl) ?_
    fail "dls"
    · exact hn
    rename_i ls hls
    obtain ⟨k1, k2, k3⟩ := hls
    refine ⟨by rw [List.length_map]; omega, gOf lnD (fun l => if lineB ns a l.1 l.2 = true then some (lnD l) else none), ?_, ?_⟩
    · intro j d hd2
      obtain ⟨l, hl, rfl⟩ := map_at hd2
      have hs := k2 l (mem_at hl)
      rw [gOf_at lnD_inj]
      fail "dls"
      · exact ⟨hn, hs.1.mono (by decide), hs.2.mono (by decide)⟩
      · rename_i hc _ _
        exact if_pos hc
      · rename_i hc
        exact if_neg (by simpa using hc)
    rw [gOf_map lnD_inj, fm_filter]
    fail "dls"
    refine we_lcO [("line", 5)] [5] (by fail "ok") hX (by decide +kernel) ?_
    fail "dls"
    have hfl : (ls.filter fun l => lineB ns a l.1 l.2).length ≤ 64 := Nat.le_trans (List.length_filter_le _ _) k1
    refine ⟨by rw [List.length_map]; omega, gOf lnD (fun l => if decide (l.1 + l.2 * m = g) = true then some (lnD l) else none), ?_, ?_⟩
    · intro j d hd2
      obtain ⟨l, hl, rfl⟩ := map_at hd2
      have hs := k2 l (List.mem_filter.mp (mem_at hl)).1
      rw [gOf_at lnD_inj]
      fail "dls"
      · exact ⟨hs.1.mono (by decide), hs.2.mono (by decide), hz.mono (by decide)⟩
      · rename_i hc _ _
        exact if_pos (by simpa using hc)
      · rename_i hc
        exact if_neg (by simpa using hc)
    rw [gOf_map lnD_inj, fm_filter]
    have hmem : (cv a x y, sv a x y) ∈ (ls.filter fun l => lineB ns a l.1 l.2).filter fun l => decide (l.1 + l.2 * m = g) :=
      List.mem_filter.mpr ⟨List.mem_filter.mpr ⟨k3 _ _ _ _ hpr.lt hpr.ax hpr.bx, hdom⟩, decide_eq_true hv⟩
    obtain ⟨l, hl⟩ := at_lt (xs := (ls.filter fun l => lineB ns a l.1 l.2).filter fun l => decide (l.1 + l.2 * m = g)) (i := 0) (List.length_pos_of_mem hmem)
    obtain ⟨m1, m2⟩ := List.mem_filter.mp (mem_at hl)
    obtain ⟨m3, m4⟩ := List.mem_filter.mp m1
    fail "dls"
    refine wi_seq (by fail "as") (by with_unfolding_all rfl) (atI_n (n := 0) (d := lnD l) (by rw [List.getElem?_map, hl]; rfl)) ?_
    fail "dls"
    exact h l.1 l.2 g ⟨hg, m4, of_decide_eq_true m2, k2 l m3⟩
set_option maxHeartbeats 4000000 in
theorem fk_greatest_square {P : Program} {w : World} {K : PySem.W.Frag} {mg : Str → Option Value} {base : Heap} {cShare : Addr} (T : Txt K mg cShare) : Fk P w K mg base (wd K cShare) "greatest_square" ["numbers", "mean"] 0 dsp_greatest_square 5 := by
  obtain ⟨f, fd, F, hm⟩ := T.d_greatest_square.ex
  refine ⟨f, fd, fn_D2 F sc_greatest_square vi_greatest_square gl_greatest_square rfl (fun as M Ψ E h => ?_) (fun X as M Ψ E ok own hX hM h => ?_), hm, F.kp, F.binds fun _ _ _ _ _ _ us hl => match us, hl with | [_, _], _ => rfl⟩
  · obtain ⟨t, ns, m, rfl, hp, h⟩ := h <;> rfl
  have l0 : Lv X "numbers" 0 := ok.lv 0 rfl (by decide) rfl rfl
  have t0 : Ls X "numbers" 0 := ok.ls 0 rfl (by decide)
  have l1 : Lv X "mean" 1 := ok.lv 1 rfl (by decide) rfl rfl
  have t1 : Ls X "mean" 1 := ok.ls 1 rfl (by decide)
  have l2 : Lv X "low" 2 := ok.lv 2 rfl (by decide) rfl rfl
  have t2 : Ls X "low" 2 := ok.ls 2 rfl (by decide)
  have l3 : Lv X "high" 3 := ok.lv 3 rfl (by decide) rfl rfl
  have t3 : Ls X "high" 3 := ok.ls 3 rfl (by decide)
  have f0 := ok.fc 0 (x := "check_numbers") rfl (fk_check_numbers T) (by decide) rfl
  have f1 := ok.cc 1 (x := "Share") (c := 0) rfl (fk_Share_init T) (by decide) rfl
  have kShare := T.cls_Share
  have sShare : IsF X.K (wd K cShare) 0 := by rw [show X.K = K from ok.kE]; exact T.isf_Share
  have jShare : PySem.W.kitOne X.K (.ref cShare) (.ref cShare) = some true := by rw [show X.K = K from ok.kE]; exact T.kc_Share
  have qShare0 : ((wd K cShare).cf 0)[0]? = some ("over" : Str) := rfl
  have qShare1 : ((wd K cShare).cf 0)[1]? = some ("under" : Str) := rfl
  have e_Share_sub := fk_Share_sub (P := P) (w := w) (base := base) T
  have e_Share_mul := fk_Share_mul (P := P) (w := w) (base := base) T
  have calm := ok.calm
  have wk := ok.wk
  obtain ⟨t, ns, m, rfl, hp, h⟩ := h
  obtain rfl : M = [] := List.eq_nil_of_length_eq_zero hM
  refine ws_rho (by fail "rho") ?_
  obtain ⟨hn, hd⟩ := hp
  have hz := hd.sz
  have h2 := hn.lo
  have hl : (ns.map D.int).length = ns.length := by simp
  obtain ⟨x, hx⟩ := at_lt (xs := ns) (i := 0) (by omega)
  obtain ⟨y, hy⟩ := at_lt (xs := ns) (i := ns.length - 1) (by omega)
  have szx : Sz 67 (Rat.divInt x 1) := by rw [di_one]; exact sz_int (hn.bd67 (mem_at hx)) (by decide)
  have szy : Sz 67 (Rat.divInt y 1) := by rw [di_one]; exact sz_int (hn.bd67 (mem_at hy)) (by decide)
  have n1 : 0 ≤ (m - Rat.divInt x 1).num := by
    rw [Rat.num_nonneg, di_one]; have := hd.lo x hx; grind
  have n2 : 0 ≤ (Rat.divInt y 1 - m).num := by
    rw [Rat.num_nonneg, di_one]; have := hd.hi y hy; grind
  cases t
  all_goals
    fail "dls"
    · exact hn
    refine wi_seq (by fail "as") rfl (atI_n (n := 0) (d := .int x) (by rw [List.getElem?_map, hx]; rfl)) ?_
    fail "dls"
    · exact ⟨by decide, bd_one (by decide)⟩
    · exact ⟨hz.mono (by decide), szx.mono (by decide)⟩
    refine wi_seq (by fail "as") rfl (at_last hy) ?_
    fail "dls"
    · exact ⟨by decide, bd_one (by decide)⟩
    · exact ⟨szy.mono (by decide), hz.mono (by decide)⟩
    · exact ⟨(hz.sub szx).mono (by decide), (szy.sub hz).mono (by decide)⟩
    · exact h x y ⟨hx, hy⟩
/-! the laws' own small defs about shares -/
theorem bitsB {n : Nat} {a : Int} (h : 0 ≤ a) (h2 : Bd n a) : Builtin.Int.intBits a ≤ n := by
  obtain ⟨k, rfl⟩ := Int.eq_ofNat_of_zero_le h
  unfold Bd at h2
  unfold Builtin.Int.intBits
  by_cases hn : k = 0
  · subst hn; simp
  · rw [if_neg (by simpa using hn)]
    have : k.log2 < n := (Nat.log2_lt hn).mpr (by simpa using h2)
    exact this
theorem bits_lt {a : Int} (h : 0 ≤ a) : a < 2 ^ (Builtin.Int.intBits a) := by
  obtain ⟨n, rfl⟩ := Int.eq_ofNat_of_zero_le h
  unfold Builtin.Int.intBits
  by_cases hn : n = 0
  · subst hn; decide
  · rw [if_neg (by simpa using hn)]
    have : n < 2 ^ (n.log2 + 1) := Nat.lt_log2_self
    exact_mod_cast this
theorem half_le {a b : Int} (h0 : 0 < b) (h : b < a) : 2 * (a % b) ≤ a := by
  have h1 := Int.emod_lt_of_pos a h0
  have e := Int.emod_add_mul_ediv a b
  have q : 1 ≤ a / b := Int.le_ediv_of_mul_le h0 (by omega)
  have h2 : b * 1 ≤ b * (a / b) := Int.mul_le_mul_of_nonneg_left q (by omega)
  omega
theorem gcd_step {a b P : Int} {i : Nat} (h0 : 0 < b) (h : b < a) (hP : a * b * 2 ^ i ≤ P) : b * (a % b) * 2 ^ (i + 1) ≤ P := by
  refine Int.le_trans ?_ hP
  have t0 : (0 : Int) ≤ 2 ^ i := Int.pow_nonneg (by decide)
  rw [Int.pow_succ, show b * (a % b) * (2 ^ i * 2) = (b * (2 * (a % b))) * 2 ^ i from by
    rw [Int.mul_comm (2 ^ i) 2, ← Int.mul_assoc, Int.mul_assoc b, Int.mul_comm (a % b) 2], Int.mul_comm a b]
  exact Int.mul_le_mul_of_nonneg_right (Int.mul_le_mul_of_nonneg_left (half_le h0 h) (by omega)) t0
theorem gcd_first {a b : Int} (ha : 0 ≤ a) (h0 : 0 < b) : b * (a % b) * 2 ^ 0 ≤ a * b := by
  rw [Int.pow_zero, Int.mul_one, Int.mul_comm a b]
  refine Int.mul_le_mul_of_nonneg_left ?_ (by omega)
  have e := Int.emod_add_mul_ediv a b
  have q : 0 ≤ b * (a / b) := Int.mul_nonneg (by omega) (Int.ediv_nonneg ha (by omega))
  omega
theorem gcd_end {a b x y : Int} {p q : Nat} (hx : 0 ≤ x) (hy : x < 2 ^ p) (hb : 0 ≤ y) (hy2 : y < 2 ^ q) (h0 : 0 ≤ b) (hab : b < a) (h : a * b * 2 ^ (2 * (p + q) + 3) ≤ x * y) : b = 0 := by
  rcases Int.lt_or_le 0 b with z | z
  · exfalso
    have t0 : (0 : Int) < 2 ^ (2 * (p + q) + 3) := Int.pow_pos (by decide)
    have h1 : 1 ≤ a * b := Int.mul_pos (by omega) z
    have h2 : 1 * 2 ^ (2 * (p + q) + 3) ≤ a * b * 2 ^ (2 * (p + q) + 3) := Int.mul_le_mul_of_nonneg_right h1 (by omega)
    have h3 : x * y ≤ 2 ^ p * 2 ^ q := Int.mul_le_mul (by omega) (by omega) hb (Int.pow_nonneg (by decide))
    have h4 : (2 : Int) ^ p * 2 ^ q < 2 ^ (2 * (p + q) + 3) := by
      rw [← Int.pow_add]
      exact_mod_cast Nat.pow_lt_pow_right (by decide : 1 < 2) (by omega : p + q < 2 * (p + q) + 3)
    omega
  · omega
theorem bd_abs {n : Nat} {o : Int} (h : Bd n o) : Bd n (if o < 0 then -o else o) := by unfold Bd at *; split <;> omega
theorem abs_nn {o : Int} : 0 ≤ (if o < 0 then -o else o) := by split <;> omega
abbrev prD (p : Int × Int) : D := .lst [.int p.1, .int p.2]
def frac (p : Int × Int) : Rat := Rat.divInt p.1 p.2
def dsp__law_same : DSp := fun as M Ψ _ => (∃ (q : Rat) (o u : Int), as = [.d (shQ q), .d (.lst [.int o, .int u])] ∧ (0 < u ∧ Bd 8990 o ∧ Bd 8990 u ∧ q = Rat.divInt o u) ∧ Ψ (.d (.bl true)) M) ∨ ∃ b c : Bool, as = [.d (.bl b), .d (.bl c)] ∧ b = c ∧ Ψ (.d (.bl true)) M
theorem ca_sme {C : Dl.Ctx} {ρ : Rho} {M : Mm} {Ψ : AV → Mm → Prop} {q : Rat} {o u : Int} (hp : 0 < u ∧ Bd 8990 o ∧ Bd 8990 u ∧ q = Rat.divInt o u) (h : Ψ (.d (.bl true)) M) : call0 C ρ dsp__law_same [.d (shQ q), .d (.lst [.int o, .int u])] M Ψ := .inl ⟨q, o, u, rfl, hp, nil_app h⟩
theorem ca_smb {C : Dl.Ctx} {ρ : Rho} {M : Mm} {Ψ : AV → Mm → Prop} {b c : Bool} (hp : b = c) (h : Ψ (.d (.bl true)) M) : call0 C ρ dsp__law_same [.d (.bl b), .d (.bl c)] M Ψ := .inr ⟨b, c, rfl, hp, nil_app h⟩
local macro_rules | `(tactic| fail "dl_u") => `(tactic| with_reducible refine Lw.ca_sme ?_ ?_)
local macro_rules | `(tactic| fail "dl_u") => `(tactic| with_reducible refine Lw.ca_smb ?_ ?_)
def dsp__law_gcd : DSp := fun as M Ψ _ => ∃ (a : Int) (b : Int), as = [.d (.int a), .d (.int b)] ∧ (0 ≤ a ∧ 0 ≤ b ∧ Bd 8990 a ∧ Bd 8990 b) ∧ Ψ (.d (.int (Int.gcd a b))) M
theorem ca_lg {C : Dl.Ctx} {ρ : Rho} {M : Mm} {Ψ : AV → Mm → Prop} {a : Int} {b : Int} (hp : 0 ≤ a ∧ 0 ≤ b ∧ Bd 8990 a ∧ Bd 8990 b) (h : Ψ (.d (.int (Int.gcd a b))) M) : call0 C ρ dsp__law_gcd [.d (.int a), .d (.int b)] M Ψ := ⟨a, b, rfl, hp, (by show Ψ _ (M ++ []); rw [List.append_nil]; exact h)⟩
local macro_rules | `(tactic| fail "dl_u") => `(tactic| with_reducible refine Lw.ca_lg ?_ ?_)
def dsp__law_is_whole : DSp := fun as M Ψ _ => ∃ (a : Int), as = [.d (.int a)] ∧ Ψ (.d (.bl true)) M
theorem ca_wh {C : Dl.Ctx} {ρ : Rho} {M : Mm} {Ψ : AV → Mm → Prop} {a : Int} (h : Ψ (.d (.bl true)) M) : call0 C ρ dsp__law_is_whole [.d (.int a)] M Ψ := ⟨a, rfl, (by show Ψ _ (M ++ []); rw [List.append_nil]; exact h)⟩
local macro_rules | `(tactic| fail "dl_u") => `(tactic| with_reducible refine Lw.ca_wh ?_)
def dsp__law_is_share : DSp := fun as M Ψ _ => ∃ (q : Rat) (o : Int) (u : Int), as = [.d (shQ q), .d (.int o), .d (.int u)] ∧ (0 < u ∧ Bd 8990 o ∧ Bd 8990 u ∧ q = Rat.divInt o u) ∧ Ψ (.d (.bl true)) M
theorem ca_ish {C : Dl.Ctx} {ρ : Rho} {M : Mm} {Ψ : AV → Mm → Prop} {q : Rat} {o : Int} {u : Int} (hp : 0 < u ∧ Bd 8990 o ∧ Bd 8990 u ∧ q = Rat.divInt o u) (h : Ψ (.d (.bl true)) M) : call0 C ρ dsp__law_is_share [.d (shQ q), .d (.int o), .d (.int u)] M Ψ := ⟨q, o, u, rfl, hp, (by show Ψ _ (M ++ []); rw [List.append_nil]; exact h)⟩
local macro_rules | `(tactic| fail "dl_u") => `(tactic| with_reducible refine Lw.ca_ish ?_ ?_)
def dsp__law_pair : DSp := fun as M Ψ _ => ∃ (q : Rat), as = [.d (shQ q)] ∧ Ψ (.d (prD (q.num, (q.den : Nat)))) M
theorem ca_lpa {C : Dl.Ctx} {ρ : Rho} {M : Mm} {Ψ : AV → Mm → Prop} {q : Rat} (h : Ψ (.d (prD (q.num, (q.den : Nat)))) M) : call0 C ρ dsp__law_pair [.d (shQ q)] M Ψ := ⟨q, rfl, (by show Ψ _ (M ++ []); rw [List.append_nil]; exact h)⟩
local macro_rules | `(tactic| fail "dl_u") => `(tactic| with_reducible refine Lw.ca_lpa ?_)
def dsp__law_sum : DSp := fun as M Ψ _ => ∃ (ps : List (Int × Int)), as = [.d (.lst (ps.map prD))] ∧ (ps.length ≤ 8 ∧ ∀ p ∈ ps, 0 < p.2 ∧ Bd 400 p.1 ∧ Bd 400 p.2) ∧ ∀ (o : Int) (u : Int), (0 < u ∧ Bd 4000 o ∧ Bd 4000 u ∧ Rat.divInt o u = qsum (ps.map frac) ∧ Bd (1 + 402 * ps.length) o ∧ Bd (1 + 402 * ps.length) u) → Ψ (.d (prD (o, u))) M
theorem ca_lsu {C : Dl.Ctx} {ρ : Rho} {M : Mm} {Ψ : AV → Mm → Prop} {ps : List (Int × Int)} (hp : ps.length ≤ 8 ∧ ∀ p ∈ ps, 0 < p.2 ∧ Bd 400 p.1 ∧ Bd 400 p.2) (h : ∀ (o : Int) (u : Int), (0 < u ∧ Bd 4000 o ∧ Bd 4000 u ∧ Rat.divInt o u = qsum (ps.map frac) ∧ Bd (1 + 402 * ps.length) o ∧ Bd (1 + 402 * ps.length) u) → Ψ (.d (prD (o, u))) M) : call0 C ρ dsp__law_sum [.d (.lst (ps.map prD))] M Ψ := ⟨ps, rfl, hp, fun o u hq => (by show Ψ _ (M ++ []); rw [List.append_nil]; exact h o u hq)⟩
local macro_rules | `(tactic| fail "dl_u") => `(tactic| with_reducible refine Lw.ca_lsu ?_ fun o u hq => ?_)
def dsp__law_like : DSp := fun as M Ψ _ => ∃ (o : Int) (u : Int) (x : Int) (y : Int), as = [.d (prD (o, u)), .d (prD (x, y))] ∧ (0 < u ∧ 0 < y ∧ Bd 4400 o ∧ Bd 4400 u ∧ Bd 4400 x ∧ Bd 4400 y) ∧ Ψ (.d (.bl (decide (Rat.divInt o u = Rat.divInt x y)))) M
theorem ca_lli {C : Dl.Ctx} {ρ : Rho} {M : Mm} {Ψ : AV → Mm → Prop} {o : Int} {u : Int} {x : Int} {y : Int} (hp : 0 < u ∧ 0 < y ∧ Bd 4400 o ∧ Bd 4400 u ∧ Bd 4400 x ∧ Bd 4400 y) (h : Ψ (.d (.bl (decide (Rat.divInt o u = Rat.divInt x y)))) M) : call0 C ρ dsp__law_like [.d (prD (o, u)), .d (prD (x, y))] M Ψ := ⟨o, u, x, y, rfl, hp, (by show Ψ _ (M ++ []); rw [List.append_nil]; exact h)⟩
local macro_rules | `(tactic| fail "dl_u") => `(tactic| with_reducible refine Lw.ca_lli ?_ ?_)
set_option maxHeartbeats 4000000 in
theorem fk__law_gcd {P : Program} {w : World} {K : PySem.W.Frag} {mg : Str → Option Value} {base : Heap} {cShare : Addr} (T : Txt K mg cShare) : Fk P w K mg base (wd K cShare) "_law_gcd" ["one", "other"] 0 dsp__law_gcd 1 := by
  obtain ⟨f, fd, F, hm⟩ := T.d__law_gcd.ex
  refine ⟨f, fd, fn_D2 F sc__law_gcd vi__law_gcd gl__law_gcd rfl (fun as M Ψ E h => ?_) (fun X as M Ψ E ok own hX hM h => ?_), hm, F.kp, F.binds fun _ _ _ _ _ _ us hl => match us, hl with | [_, _], _ => rfl⟩
  · obtain ⟨a, b, rfl, hp, h⟩ := h <;> rfl
  have l0 : Lv X "one" 0 := ok.lv 0 rfl (by decide) rfl rfl
  have t0 : Ls X "one" 0 := ok.ls 0 rfl (by decide)
  have l1 : Lv X "other" 1 := ok.lv 1 rfl (by decide) rfl rfl
  have t1 : Ls X "other" 1 := ok.ls 1 rfl (by decide)
  have l2 : Lv X "step" 2 := ok.lv 2 rfl (by decide) rfl rfl
  have t2 : Ls X "step" 2 := ok.ls 2 rfl (by decide)
  have b0 : Bt X "range" "range" := ok.bt 0 rfl T.b_range rfl (by decide) rfl
  have e0 : (g__law_gcd)[0]? = some ("range" : Str) := rfl
  have m0 : mg "range" = none := T.b_range
  have b1 : Bt X "int" "int" := ok.bt 1 rfl T.b_int rfl (by decide) rfl
  have kShare := T.cls_Share
  have sShare : IsF X.K (wd K cShare) 0 := by rw [show X.K = K from ok.kE]; exact T.isf_Share
  have jShare : PySem.W.kitOne X.K (.ref cShare) (.ref cShare) = some true := by rw [show X.K = K from ok.kE]; exact T.kc_Share
  have qShare0 : ((wd K cShare).cf 0)[0]? = some ("over" : Str) := rfl
  have qShare1 : ((wd K cShare).cf 0)[1]? = some ("under" : Str) := rfl
  have calm := ok.calm
  have wk := ok.wk
  obtain ⟨a, b, rfl, hp, h⟩ := h
  obtain rfl : M = [] := List.eq_nil_of_length_eq_zero hM
  refine ws_rho (by fail "rho") ?_
  have ba := bitsB hp.1 hp.2.2.1
  have bb := bitsB hp.2.1 hp.2.2.2
  refine ws_cons (w1_forR ok (by fail "as") (by fail "as") own ?_)
  fail "dls"
  · exact .inl (.inl ⟨by decide, by decide⟩)
  refine ⟨by omega, fun i ρ M => ∃ x y k, ρ = [some (.d (.int x)), some (.d (.int y)), k] ∧ M = [] ∧ 0 ≤ x ∧ 0 ≤ y ∧ Int.gcd x y = Int.gcd a b ∧ (i = 0 ∧ x = a ∧ y = b ∨ 0 < i ∧ y < x ∧ x * y * 2 ^ (i - 1) ≤ a * b), ⟨a, b, none, rfl, rfl, hp.1, hp.2.1, rfl, .inl ⟨rfl, rfl, rfl⟩⟩, ?_, ?_⟩
  · rintro i ρ' M' hi ⟨x, y, k, rfl, rfl, h0, h1, h2, h3⟩
    fail "dls"
    · rename_i hc
      subst hc
      have e : ((Int.gcd a b : Nat) : Int) = x := by rw [← h2, Int.gcd_zero_right]; omega
      rw [e] at h; exact h
    · omega
    · have hy : 0 < y := by omega
      refine ⟨y, x % y, _, rfl, rfl, h1, Int.emod_nonneg _ (by omega), by rw [← h2]; exact gcd_em h0 hy, .inr ⟨by omega, Int.emod_lt_of_pos _ hy, ?_⟩⟩
      rcases h3 with ⟨rfl, rfl, rfl⟩ | ⟨q0, q1, q2⟩
      · exact gcd_first h0 hy
      · have := gcd_step hy q1 q2
        rwa [show i - 1 + 1 = i + 1 - 1 from by omega] at this
  · rintro ρ' M' ⟨x, y, k, rfl, rfl, h0, h1, h2, h3⟩
    rcases h3 with ⟨q0, _⟩ | ⟨q0, q1, q2⟩
    · omega
    have e0 : y = 0 := gcd_end (p := Builtin.Int.intBits a) (q := Builtin.Int.intBits b) hp.1 (bits_lt hp.1) hp.2.1 (bits_lt hp.2.1) h1 q1 (by
      refine Eq.mp ?_ q2
      congr 3)
    subst e0
    fail "dls"
    have e : ((Int.gcd a b : Nat) : Int) = x := by rw [← h2, Int.gcd_zero_right]; omega
    rw [e] at h; exact h
set_option maxHeartbeats 4000000 in
theorem fk__law_is_whole {P : Program} {w : World} {K : PySem.W.Frag} {mg : Str → Option Value} {base : Heap} {cShare : Addr} (T : Txt K mg cShare) : Fk P w K mg base (wd K cShare) "_law_is_whole" ["told"] 0 dsp__law_is_whole 1 := by
  obtain ⟨f, fd, F, hm⟩ := T.d__law_is_whole.ex
  refine ⟨f, fd, fn_D2 F sc__law_is_whole vi__law_is_whole gl__law_is_whole rfl (fun as M Ψ E h => ?_) (fun X as M Ψ E ok own hX hM h => ?_), hm, F.kp, F.binds fun _ _ _ _ _ _ us hl => match us, hl with | [_], _ => rfl⟩
  · obtain ⟨a, rfl, h⟩ := h <;> rfl
  have l0 : Lv X "told" 0 := ok.lv 0 rfl (by decide) rfl rfl
  have t0 : Ls X "told" 0 := ok.ls 0 rfl (by decide)
  have b0 : Bk X "isinstance" "isinstance" := ok.bk 0 rfl T.b_isinstance rfl (by decide) rfl
  have b1 : Bt X "int" "int" := ok.bt 1 rfl T.b_int rfl (by decide) rfl
  have b2 : Bt X "bool" "bool" := ok.bt 2 rfl T.b_bool rfl (by decide) rfl
  have kShare := T.cls_Share
  have sShare : IsF X.K (wd K cShare) 0 := by rw [show X.K = K from ok.kE]; exact T.isf_Share
  have jShare : PySem.W.kitOne X.K (.ref cShare) (.ref cShare) = some true := by rw [show X.K = K from ok.kE]; exact T.kc_Share
  have qShare0 : ((wd K cShare).cf 0)[0]? = some ("over" : Str) := rfl
  have qShare1 : ((wd K cShare).cf 0)[1]? = some ("under" : Str) := rfl
  have calm := ok.calm
  have wk := ok.wk
  obtain ⟨a, rfl, h⟩ := h
  obtain rfl : M = [] := List.eq_nil_of_length_eq_zero hM
  refine ws_rho (by fail "rho") ?_
  fail "dls"
  exact h
set_option maxHeartbeats 4000000 in
theorem fk__law_is_share {P : Program} {w : World} {K : PySem.W.Frag} {mg : Str → Option Value} {base : Heap} {cShare : Addr} (T : Txt K mg cShare) : Fk P w K mg base (wd K cShare) "_law_is_share" ["told", "over", "under"] 0 dsp__law_is_share 4 := by
  obtain ⟨f, fd, F, hm⟩ := T.d__law_is_share.ex
  refine ⟨f, fd, fn_D2 F sc__law_is_share vi__law_is_share gl__law_is_share rfl (fun as M Ψ E h => ?_) (fun X as M Ψ E ok own hX hM h => ?_), hm, F.kp, F.binds fun _ _ _ _ _ _ us hl => match us, hl with | [_, _, _], _ => rfl⟩
  · obtain ⟨q, o, u, rfl, hp, h⟩ := h <;> rfl
  have l0 : Lv X "told" 0 := ok.lv 0 rfl (by decide) rfl rfl
  have t0 : Ls X "told" 0 := ok.ls 0 rfl (by decide)
  have l1 : Lv X "over" 1 := ok.lv 1 rfl (by decide) rfl rfl
  have t1 : Ls X "over" 1 := ok.ls 1 rfl (by decide)
  have l2 : Lv X "under" 2 := ok.lv 2 rfl (by decide) rfl rfl
  have t2 : Ls X "under" 2 := ok.ls 2 rfl (by decide)
  have l3 : Lv X "common" 3 := ok.lv 3 rfl (by decide) rfl rfl
  have t3 : Ls X "common" 3 := ok.ls 3 rfl (by decide)
  have b0 : Bk X "isinstance" "isinstance" := ok.bk 0 rfl T.b_isinstance rfl (by decide) rfl
  have f1 := ok.cc 1 (x := "Share") (c := 0) rfl (fk_Share_init T) (by decide) rfl
  have f2 := ok.fc 2 (x := "_law_is_whole") rfl (fk__law_is_whole T) (by decide) rfl
  have f3 := ok.fc 3 (x := "_law_gcd") rfl (fk__law_gcd T) (by decide) rfl
  have b4 : Bk X "abs" "abs" := ok.bk 4 rfl T.b_abs rfl (by decide) rfl
  have kShare := T.cls_Share
  have sShare : IsF X.K (wd K cShare) 0 := by rw [show X.K = K from ok.kE]; exact T.isf_Share
  have jShare : PySem.W.kitOne X.K (.ref cShare) (.ref cShare) = some true := by rw [show X.K = K from ok.kE]; exact T.kc_Share
  have qShare0 : ((wd K cShare).cf 0)[0]? = some ("over" : Str) := rfl
  have qShare1 : ((wd K cShare).cf 0)[1]? = some ("under" : Str) := rfl
  have calm := ok.calm
  have wk := ok.wk
  obtain ⟨q, o, u, rfl, hp, h⟩ := h
  obtain rfl : M = [] := List.eq_nil_of_length_eq_zero hM
  refine ws_rho (by fail "rho") ?_
  obtain ⟨h1, h2, h3, rfl⟩ := hp
  have g0 : (0 : Int) < Int.gcd o u := by
    have := Int.gcd_pos_of_ne_zero_right o (b := u) (by omega); omega
  have g1 : (Int.gcd o u : Int) ≤ u := Int.le_of_dvd h1 (Int.gcd_dvd_right ..)
  have g2 : Bd 8990 (Int.gcd o u : Int) := by
    have := h3
    unfold Bd at *
    omega
  have ea : Int.gcd (if o < 0 then -o else o) u = Int.gcd o u := gcd_abs h1
  have dv : CDivX o (Int.gcd o u) := cdivX g0 g2 (by decide)
  have dv2 : CDivX u (Int.gcd o u) := cdivX g0 g2 (by decide)
  have e1 := num_di (a := o) h1
  have e2 := den_di (a := o) h1
  have ha := bd_abs h2
  fail "dls"
  all_goals try simp only [ea]
  all_goals first
    | exact ⟨abs_nn, Int.le_of_lt h1, ha, h3⟩
    | exact dv
    | exact dv2
    | (exfalso; rename_i hc; rw [ea] at hc; exact hc e1)
    | (rw [decide_eq_true e2]; exact h)
set_option maxHeartbeats 4000000 in
theorem fk__law_same {P : Program} {w : World} {K : PySem.W.Frag} {mg : Str → Option Value} {base : Heap} {cShare : Addr} (T : Txt K mg cShare) : Fk P w K mg base (wd K cShare) "_law_same" ["told", "due"] 0 dsp__law_same 5 := by
  obtain ⟨f, fd, F, hm⟩ := T.d__law_same.ex
  refine ⟨f, fd, fn_D2 F sc__law_same vi__law_same gl__law_same rfl (fun as M Ψ E h => ?_) (fun X as M Ψ E ok own hX hM h => ?_), hm, F.kp, F.binds fun _ _ _ _ _ _ us hl => match us, hl with | [_, _], _ => rfl⟩
  · obtain (⟨q, o, u, rfl, hp, h⟩ | ⟨b, c, rfl, rfl, h⟩) := h <;> rfl
  have l0 : Lv X "told" 0 := ok.lv 0 rfl (by decide) rfl rfl
  have t0 : Ls X "told" 0 := ok.ls 0 rfl (by decide)
  have l1 : Lv X "due" 1 := ok.lv 1 rfl (by decide) rfl rfl
  have t1 : Ls X "due" 1 := ok.ls 1 rfl (by decide)
  have l2 : Lv X "place" 2 := ok.lv 2 rfl (by decide) rfl rfl
  have t2 : Ls X "place" 2 := ok.ls 2 rfl (by decide)
  have b0 : Bk X "isinstance" "isinstance" := ok.bk 0 rfl T.b_isinstance rfl (by decide) rfl
  have b1 : Bt X "list" "list" := ok.bt 1 rfl T.b_list rfl (by decide) rfl
  have f2 := ok.fc 2 (x := "_law_is_share") rfl (fk__law_is_share T) (by decide) rfl
  have b3 : Bt X "tuple" "tuple" := ok.bt 3 rfl T.b_tuple rfl (by decide) rfl
  have b4 : Bk X "len" "len" := ok.bk 4 rfl T.b_len rfl (by decide) rfl
  have b5 : Bt X "range" "range" := ok.bt 5 rfl T.b_range rfl (by decide) rfl
  have e5 : (g__law_same)[5]? = some ("range" : Str) := rfl
  have m5 : mg "range" = none := T.b_range
  have b7 : Bt X "str" "str" := ok.bt 7 rfl T.b_str rfl (by decide) rfl
  have b8 : Bt X "bool" "bool" := ok.bt 8 rfl T.b_bool rfl (by decide) rfl
  have f9 := ok.fc 9 (x := "_law_is_whole") rfl (fk__law_is_whole T) (by decide) rfl
  have kShare := T.cls_Share
  have sShare : IsF X.K (wd K cShare) 0 := by rw [show X.K = K from ok.kE]; exact T.isf_Share
  have jShare : PySem.W.kitOne X.K (.ref cShare) (.ref cShare) = some true := by rw [show X.K = K from ok.kE]; exact T.kc_Share
  have qShare0 : ((wd K cShare).cf 0)[0]? = some ("over" : Str) := rfl
  have qShare1 : ((wd K cShare).cf 0)[1]? = some ("under" : Str) := rfl
  have calm := ok.calm
  have wk := ok.wk
  obtain (⟨q, o, u, rfl, hp, h⟩ | ⟨b, c, rfl, rfl, h⟩) := h
  all_goals (obtain rfl : M = [] := List.eq_nil_of_length_eq_zero hM)
  all_goals refine ws_rho (by fail "rho") ?_
  · fail "dls"
    · exact hp
    · exact h
  · fail "dls"
    · rename_i hc
      cases hc
    · rw [decide_eq_true rfl]
      exact h
set_option maxHeartbeats 4000000 in
theorem fk__law_pair {P : Program} {w : World} {K : PySem.W.Frag} {mg : Str → Option Value} {base : Heap} {cShare : Addr} (T : Txt K mg cShare) : Fk P w K mg base (wd K cShare) "_law_pair" ["told"] 0 dsp__law_pair 4 := by
  obtain ⟨f, fd, F, hm⟩ := T.d__law_pair.ex
  refine ⟨f, fd, fn_D2 F sc__law_pair vi__law_pair gl__law_pair rfl (fun as M Ψ E h => ?_) (fun X as M Ψ E ok own hX hM h => ?_), hm, F.kp, F.binds fun _ _ _ _ _ _ us hl => match us, hl with | [_], _ => rfl⟩
  · obtain ⟨q, rfl, h⟩ := h <;> rfl
  have l0 : Lv X "told" 0 := ok.lv 0 rfl (by decide) rfl rfl
  have t0 : Ls X "told" 0 := ok.ls 0 rfl (by decide)
  have b0 : Bk X "isinstance" "isinstance" := ok.bk 0 rfl T.b_isinstance rfl (by decide) rfl
  have f1 := ok.cc 1 (x := "Share") (c := 0) rfl (fk_Share_init T) (by decide) rfl
  have f2 := ok.fc 2 (x := "_law_is_whole") rfl (fk__law_is_whole T) (by decide) rfl
  have kShare := T.cls_Share
  have sShare : IsF X.K (wd K cShare) 0 := by rw [show X.K = K from ok.kE]; exact T.isf_Share
  have jShare : PySem.W.kitOne X.K (.ref cShare) (.ref cShare) = some true := by rw [show X.K = K from ok.kE]; exact T.kc_Share
  have qShare0 : ((wd K cShare).cf 0)[0]? = some ("over" : Str) := rfl
  have qShare1 : ((wd K cShare).cf 0)[1]? = some ("under" : Str) := rfl
  have calm := ok.calm
  have wk := ok.wk
  obtain ⟨q, rfl, h⟩ := h
  obtain rfl : M = [] := List.eq_nil_of_length_eq_zero hM
  refine ws_rho (by fail "rho") ?_
  have := den_pos q
  fail "dls"
  exact h
theorem bd_mulD {n m k : Nat} {a b : Int} (ha : Bd n a) (hb : Bd m b) (h : n + m ≤ k) : Bd k (a * b) := (ha.mul hb).mono h
theorem lsum_sz {b1 b2 : Int} {i : Nat} {p : Int × Int} (h1 : Bd (1 + 402 * i) b1) (h2 : Bd (1 + 402 * i) b2) (hp : Bd 400 p.1 ∧ Bd 400 p.2) : Bd (1 + 402 * (i + 1)) (b1 * p.2 + p.1 * b2) ∧ Bd (1 + 402 * (i + 1)) (b2 * p.2) :=
  ⟨((bd_mulD h1 hp.2 (Nat.le_refl _)).add (bd_mulD hp.1 h2 (Nat.le_refl _))).mono (by omega), (bd_mulD h2 hp.2 (Nat.le_refl _)).mono (by omega)⟩
theorem lsum_val {o u : Int} {p : Int × Int} (hu : 0 < u) (hp : 0 < p.2) : Rat.divInt (o * p.2 + p.1 * u) (u * p.2) = Rat.divInt o u + frac p := by
  unfold frac
  rw [Rat.divInt_add_divInt _ _ (by omega) (by omega)]
set_option maxHeartbeats 4000000 in
theorem fk__law_sum {P : Program} {w : World} {K : PySem.W.Frag} {mg : Str → Option Value} {base : Heap} {cShare : Addr} (T : Txt K mg cShare) : Fk P w K mg base (wd K cShare) "_law_sum" ["parts"] 0 dsp__law_sum 1 := by
  obtain ⟨f, fd, F, hm⟩ := T.d__law_sum.ex
  refine ⟨f, fd, fn_D2 F sc__law_sum vi__law_sum gl__law_sum rfl (fun as M Ψ E h => ?_) (fun X as M Ψ E ok own hX hM h => ?_), hm, F.kp, F.binds fun _ _ _ _ _ _ us hl => match us, hl with | [_], _ => rfl⟩
  · obtain ⟨ps, rfl, hp, h⟩ := h <;> rfl
  have l0 : Lv X "parts" 0 := ok.lv 0 rfl (by decide) rfl rfl
  have t0 : Ls X "parts" 0 := ok.ls 0 rfl (by decide)
  have l1 : Lv X "over" 1 := ok.lv 1 rfl (by decide) rfl rfl
  have t1 : Ls X "over" 1 := ok.ls 1 rfl (by decide)
  have l2 : Lv X "under" 2 := ok.lv 2 rfl (by decide) rfl rfl
  have t2 : Ls X "under" 2 := ok.ls 2 rfl (by decide)
  have l3 : Lv X "part" 3 := ok.lv 3 rfl (by decide) rfl rfl
  have t3 : Ls X "part" 3 := ok.ls 3 rfl (by decide)
  have kShare := T.cls_Share
  have sShare : IsF X.K (wd K cShare) 0 := by rw [show X.K = K from ok.kE]; exact T.isf_Share
  have jShare : PySem.W.kitOne X.K (.ref cShare) (.ref cShare) = some true := by rw [show X.K = K from ok.kE]; exact T.kc_Share
  have qShare0 : ((wd K cShare).cf 0)[0]? = some ("over" : Str) := rfl
  have qShare1 : ((wd K cShare).cf 0)[1]? = some ("under" : Str) := rfl
  have calm := ok.calm
  have wk := ok.wk
  obtain ⟨ps, rfl, hp, h⟩ := h
  obtain rfl : M = [] := List.eq_nil_of_length_eq_zero hM
  refine ws_rho (by fail "rho") ?_
  have e0 : Rat.divInt 0 1 = qsum ([] : List Rat) := di01
  fail "dls"
  refine w1_for ok own ?_
  fail "dls"
  refine ⟨fun i ρ M => ∃ (o u : Int) (y : Option AV), ρ = [_, some (.d (.int o)), some (.d (.int u)), y] ∧ M = [] ∧ 0 < u ∧ Bd (1 + 402 * i) o ∧ Bd (1 + 402 * i) u ∧ Rat.divInt o u = qsum ((ps.take i).map frac), ⟨_, _, _, rfl, rfl, by decide, by unfold Bd; decide, by unfold Bd; decide, e0⟩, ?_, ?_⟩
  · rintro i d ρ' M' hi hd ⟨o, u, y, rfl, rfl, h1, h2, h3, h4⟩
    obtain ⟨p, hq, rfl⟩ := map_at hd
    have hq2 := hp.2 p (mem_at hq)
    have hi2 := lt_at hq
    have hi8 := hp.1
    obtain ⟨s1, s2⟩ := lsum_sz h2 h3 hq2.2
    have b1 := cmulX (h2.mono (m := 4000) (by omega)) hq2.2.2 (by decide)
    have b2 := cmulX hq2.2.1 (h3.mono (m := 4000) (by omega)) (by decide)
    have b3 := cmulX (h3.mono (m := 4000) (by omega)) hq2.2.2 (by decide)
    have ev : Rat.divInt (o * p.2 + p.1 * u) (u * p.2) = qsum ((ps.take (i + 1)).map frac) := by
      rw [lsum_val h1 hq2.1, h4, List.map_take, List.map_take, qsum_take (by rw [List.getElem?_map, hq]; rfl)]
    have u0 := Int.mul_pos h1 hq2.1
    fail "dls"
    all_goals first
      | exact b1
      | exact b2
      | exact b3
      | exact ⟨_, _, _, rfl, rfl, u0, s1, s2, ev⟩
  · rintro ρ' M' ⟨o, u, y, rfl, rfl, h1, h2, h3, h4⟩
    have hi8 := hp.1
    rw [List.length_map] at h2 h3 h4
    rw [List.take_length] at h4
    fail "dls"
    exact h o u ⟨h1, h2.mono (by omega), h3.mono (by omega), h4, h2, h3⟩
set_option maxHeartbeats 4000000 in
theorem fk__law_like {P : Program} {w : World} {K : PySem.W.Frag} {mg : Str → Option Value} {base : Heap} {cShare : Addr} (T : Txt K mg cShare) : Fk P w K mg base (wd K cShare) "_law_like" ["one", "other"] 0 dsp__law_like 1 := by
  obtain ⟨f, fd, F, hm⟩ := T.d__law_like.ex
  refine ⟨f, fd, fn_D2 F sc__law_like vi__law_like gl__law_like rfl (fun as M Ψ E h => ?_) (fun X as M Ψ E ok own hX hM h => ?_), hm, F.kp, F.binds fun _ _ _ _ _ _ us hl => match us, hl with | [_, _], _ => rfl⟩
  · obtain ⟨o, u, x, y, rfl, hp, h⟩ := h <;> rfl
  have l0 : Lv X "one" 0 := ok.lv 0 rfl (by decide) rfl rfl
  have t0 : Ls X "one" 0 := ok.ls 0 rfl (by decide)
  have l1 : Lv X "other" 1 := ok.lv 1 rfl (by decide) rfl rfl
  have t1 : Ls X "other" 1 := ok.ls 1 rfl (by decide)
  have kShare := T.cls_Share
  have sShare : IsF X.K (wd K cShare) 0 := by rw [show X.K = K from ok.kE]; exact T.isf_Share
  have jShare : PySem.W.kitOne X.K (.ref cShare) (.ref cShare) = some true := by rw [show X.K = K from ok.kE]; exact T.kc_Share
  have qShare0 : ((wd K cShare).cf 0)[0]? = some ("over" : Str) := rfl
  have qShare1 : ((wd K cShare).cf 0)[1]? = some ("under" : Str) := rfl
  have calm := ok.calm
  have wk := ok.wk
  obtain ⟨o, u, x, y, rfl, hp, h⟩ := h
  obtain rfl : M = [] := List.eq_nil_of_length_eq_zero hM
  refine ws_rho (by fail "rho") ?_
  obtain ⟨h1, h2, h3, h4, h5, h6⟩ := hp
  have b1 := cmulX h3 h6 (by decide)
  have b2 := cmulX h5 h4 (by decide)
  fail "dls"
  · exact b1
  · exact b2
  · rw [show decide (Rat.divInt o u = Rat.divInt x y) = decide (o * y = x * u) from decide_eq_decide.mpr (Rat.divInt_eq_divInt_iff (by omega) (by omega))] at h
    exact h
abbrev stm (a b c : Int) : MO := .l [.int a, .int b, .int c]
abbrev lI (ns : List Int) : D := .lst (ns.map .int)
def fst (ns : List Int) : Int := ns.headD 0
def lst (ns : List Int) : Int := ns.getLastD 0
structure Mean (ns : List Int) (o u : Int) : Prop where
  u1 : 1 ≤ u
  u2 : u ≤ 40
  lo : fst ns * u ≤ o
  hi : o ≤ lst ns * u
def dsp__law_stream : DSp := fun as M Ψ _ => ∃ (cs : List Int) (t : Int), as = [.d (lI cs), .d (.int t)] ∧ (cs.length ≤ 63) ∧ ∀ a b c, Ψ (.m 0) [stm a b c]
def dsp__law_draw : DSp := fun as M Ψ _ => ∃ a b c l : Int, as = [.m 0, .d (.int l)] ∧ M = [stm a b c] ∧ (0 < l ∧ l < 1073741824) ∧ ∀ r a' b' c', 0 ≤ r ∧ r < l → Ψ (.d (.int r)) [stm a' b' c']
def dsp__law_numbers : DSp := fun as M Ψ _ => ∃ a b c : Int, as = [.m 0] ∧ M = [stm a b c] ∧ ∀ ns a' b' c', Nums ns → Ψ (.d (lI ns)) [stm a' b' c']
def dsp__law_mean : DSp := fun as M Ψ _ => ∃ (a b c : Int) (ns : List Int), as = [.m 0, .d (lI ns)] ∧ M = [stm a b c] ∧ Nums ns ∧ ∀ o u a' b' c', Mean ns o u → Ψ (.d (.lst [.int o, .int u])) [stm a' b' c']
def dsp__law_at : DSp := fun as M Ψ _ => ∃ (a b c : Int) (ns : List Int), as = [.m 0, .d (lI ns)] ∧ M = [stm a b c] ∧ Nums ns ∧ ∀ t a' b' c', -(2 ^ 68) < t ∧ t < 2 ^ 68 → Ψ (.d (.int t)) [stm a' b' c']
section
variable {C : Dl.Ctx} {ρ : Rho} {M : Mm} {Ψ : AV → Mm → Prop}
theorem ca_st {cs : List Int} {t : Int} (hp : cs.length ≤ 63) (h : ∀ a b c, Ψ (.m M.length) (M ++ [stm a b c])) : call0 C ρ dsp__law_stream [.d (lI cs), .d (.int t)] M Ψ := ⟨cs, t, rfl, hp, h⟩
theorem ca_dr {a b c l : Int} {R : Mm} (hM : M = stm a b c :: R) (hl : 0 < l ∧ l < 1073741824) (h : ∀ r a' b' c', 0 ≤ r ∧ r < l → Ψ (.d (.int r)) (stm a' b' c' :: R)) :
    only1 0 [.m 0, .d (.int l)] = true ∧ call1 C ρ 0 dsp__law_draw [.m 0, .d (.int l)] M Ψ := by
  subst hM; exact ⟨rfl, _, rfl, a, b, c, l, rfl, rfl, hl, fun r a' b' c' h1 => ⟨_, [], rfl, by show Ψ _ (stm a' b' c' :: R ++ []); rw [List.append_nil]; exact h r a' b' c' h1⟩⟩
theorem ca_nu {a b c : Int} {R : Mm} (hM : M = stm a b c :: R) (h : ∀ ns a' b' c', Nums ns → Ψ (.d (lI ns)) (stm a' b' c' :: R)) :
    only1 0 [.m 0] = true ∧ call1 C ρ 0 dsp__law_numbers [.m 0] M Ψ := by
  subst hM; exact ⟨rfl, _, rfl, a, b, c, rfl, rfl, fun r a' b' c' h1 => ⟨_, [], rfl, by show Ψ _ (stm a' b' c' :: R ++ []); rw [List.append_nil]; exact h r a' b' c' h1⟩⟩
theorem ca_me {a b c : Int} {ns : List Int} {R : Mm} (hM : M = stm a b c :: R) (hn : Nums ns) (h : ∀ o u a' b' c', Mean ns o u → Ψ (.d (.lst [.int o, .int u])) (stm a' b' c' :: R)) :
    only1 0 [.m 0, .d (lI ns)] = true ∧ call1 C ρ 0 dsp__law_mean [.m 0, .d (lI ns)] M Ψ := by
  subst hM; exact ⟨rfl, _, rfl, a, b, c, ns, rfl, rfl, hn, fun o u a' b' c' h1 => ⟨_, [], rfl, by show Ψ _ (stm a' b' c' :: R ++ []); rw [List.append_nil]; exact h o u a' b' c' h1⟩⟩
theorem ca_at {a b c : Int} {ns : List Int} {R : Mm} (hM : M = stm a b c :: R) (hn : Nums ns) (h : ∀ t a' b' c', -(2 ^ 68) < t ∧ t < 2 ^ 68 → Ψ (.d (.int t)) (stm a' b' c' :: R)) :
    only1 0 [.m 0, .d (lI ns)] = true ∧ call1 C ρ 0 dsp__law_at [.m 0, .d (lI ns)] M Ψ := by
  subst hM; exact ⟨rfl, _, rfl, a, b, c, ns, rfl, rfl, hn, fun t a' b' c' h1 => ⟨_, [], rfl, by show Ψ _ (stm a' b' c' :: R ++ []); rw [List.append_nil]; exact h t a' b' c' h1⟩⟩
end
theorem mul_in {x y a b : Int} (hx : 0 ≤ x) (hx2 : x ≤ a) (hy : 0 ≤ y) (hy2 : y ≤ b) : 0 ≤ x * y ∧ x * y ≤ a * b := ⟨Int.mul_nonneg hx hy, Int.mul_le_mul hx2 hy2 hy (by omega)⟩
theorem at_cs {cs : List Int} {i : Int} (h0 : 0 ≤ i) (h : i < cs.length) : ∃ x, atI (cs.map D.int) i = some (.int x) ∧ cs[i.toNat]? = some x ∧ x ∈ cs := by
  obtain ⟨n, rfl⟩ := Int.eq_ofNat_of_zero_le h0
  have hn : n < cs.length := by omega
  refine ⟨cs[n], ?_, List.getElem?_eq_getElem _, List.getElem_mem _⟩
  unfold atI ixN
  rw [if_pos h0, if_pos (by simpa using h)]
  simp [hn]
local macro_rules | `(tactic| fail "dl_u") => `(tactic| with_reducible refine Lw.ca_st (by assumption) fun a b c => ?_)
local macro_rules | `(tactic| fail "dl_u") => `(tactic| with_reducible refine Lw.ca_dr (by first | fail "nm" | exact rfl) (by omega) fun r a b c hr => ?_)
local macro_rules | `(tactic| fail "dl_u") => `(tactic| with_reducible refine Lw.ca_nu (by first | fail "nm" | exact rfl) fun ns a b c hn => ?_)
local macro_rules | `(tactic| fail "dl_u") => `(tactic| with_reducible refine Lw.ca_me (by first | fail "nm" | exact rfl) (by assumption) fun o u a b c hm => ?_)
local macro_rules | `(tactic| fail "dl_u") => `(tactic| with_reducible refine Lw.ca_at (by first | fail "nm" | exact rfl) (by assumption) fun t a b c ht => ?_)
set_option maxHeartbeats 4000000 in
theorem fk__law_stream {P : Program} {w : World} {K : PySem.W.Frag} {mg : Str → Option Value} {base : Heap} {cShare : Addr} (T : Txt K mg cShare) : Fk P w K mg base (wd K cShare) "_law_stream" ["script", "at"] 0 dsp__law_stream 1 := by
  obtain ⟨f, fd, F, hm⟩ := T.d__law_stream.ex
  refine ⟨f, fd, fn_D2 F sc__law_stream vi__law_stream gl__law_stream rfl (fun as M Ψ E h => ?_) (fun X as M Ψ E ok own hX hM h => ?_), hm, F.kp, F.binds fun _ _ _ _ _ _ us hl => match us, hl with | [_, _], _ => rfl⟩
  · obtain ⟨cs, t, rfl, hp, h⟩ := h <;> rfl
  have l0 : Lv X "script" 0 := ok.lv 0 rfl (by decide) rfl rfl
  have t0 : Ls X "script" 0 := ok.ls 0 rfl (by decide)
  have l1 : Lv X "at" 1 := ok.lv 1 rfl (by decide) rfl rfl
  have t1 : Ls X "at" 1 := ok.ls 1 rfl (by decide)
  have l2 : Lv X "cell" 2 := ok.lv 2 rfl (by decide) rfl rfl
  have t2 : Ls X "cell" 2 := ok.ls 2 rfl (by decide)
  have z2 : FzV 2 := ⟨⟩
  have b0 : Bk X "len" "len" := ok.bk 0 rfl T.b_len rfl (by decide) rfl
  have b1 : Bt X "int" "int" := ok.bt 1 rfl T.b_int rfl (by decide) rfl
  have kShare := T.cls_Share
  have sShare : IsF X.K (wd K cShare) 0 := by rw [show X.K = K from ok.kE]; exact T.isf_Share
  have jShare : PySem.W.kitOne X.K (.ref cShare) (.ref cShare) = some true := by rw [show X.K = K from ok.kE]; exact T.kc_Share
  have qShare0 : ((wd K cShare).cf 0)[0]? = some ("over" : Str) := rfl
  have qShare1 : ((wd K cShare).cf 0)[1]? = some ("under" : Str) := rfl
  have calm := ok.calm
  have wk := ok.wk
  obtain ⟨cs, t, rfl, hp, h⟩ := h
  obtain rfl : M = [] := List.eq_nil_of_length_eq_zero hM
  refine ws_rho (by fail "rho") ?_
  have hm : (cs.map D.int).length = cs.length := by simp
  have rk : RetK := ⟨⟩
  fail "dls"
  all_goals try (obtain ⟨x, hx, _⟩ := at_cs (cs := cs) (i := t % (cs.map D.int).length) (Int.emod_nonneg _ (by omega)) (by rw [hm]; exact Int.emod_lt_of_pos _ (by omega)); refine wi_seq wk rfl hx ?_; fail "dls")
  all_goals first | exact h _ _ _ | decide | exact ⟨by decide, by decide, by decide⟩ | omega | exact .inl ⟨by omega, by omega⟩ | exact .inl (.inr ⟨by decide, by decide⟩) | exact .inl (.inl ⟨by decide, by decide⟩)
set_option maxHeartbeats 4000000 in
theorem fk__law_draw {P : Program} {w : World} {K : PySem.W.Frag} {mg : Str → Option Value} {base : Heap} {cShare : Addr} (T : Txt K mg cShare) : Fk P w K mg base (wd K cShare) "_law_draw" ["stream", "many"] 1 dsp__law_draw 1 := by
  obtain ⟨f, fd, F, hm⟩ := T.d__law_draw.ex
  refine ⟨f, fd, fn_D2 F sc__law_draw vi__law_draw gl__law_draw rfl (fun as M Ψ E h => ?_) (fun X as M Ψ E ok own hX hM h => ?_), hm, F.kp, F.binds fun _ _ _ _ _ _ us hl => match us, hl with | [_, _], _ => rfl⟩
  · obtain ⟨a, b, c, l, rfl, rfl, hp, h⟩ := h <;> rfl
  have l0 : Lv X "stream" 0 := ok.lv 0 rfl (by decide) rfl rfl
  have t0 : Ls X "stream" 0 := ok.ls 0 rfl (by decide)
  have l1 : Lv X "many" 1 := ok.lv 1 rfl (by decide) rfl rfl
  have t1 : Ls X "many" 1 := ok.ls 1 rfl (by decide)
  have l2 : Lv X "digit" 2 := ok.lv 2 rfl (by decide) rfl rfl
  have t2 : Ls X "digit" 2 := ok.ls 2 rfl (by decide)
  have l3 : Lv X "second" 3 := ok.lv 3 rfl (by decide) rfl rfl
  have t3 : Ls X "second" 3 := ok.ls 3 rfl (by decide)
  have b0 : Bt X "int" "int" := ok.bt 0 rfl T.b_int rfl (by decide) rfl
  have kShare := T.cls_Share
  have sShare : IsF X.K (wd K cShare) 0 := by rw [show X.K = K from ok.kE]; exact T.isf_Share
  have jShare : PySem.W.kitOne X.K (.ref cShare) (.ref cShare) = some true := by rw [show X.K = K from ok.kE]; exact T.kc_Share
  have qShare0 : ((wd K cShare).cf 0)[0]? = some ("over" : Str) := rfl
  have qShare1 : ((wd K cShare).cf 0)[1]? = some ("under" : Str) := rfl
  have calm := ok.calm
  have wk := ok.wk
  obtain ⟨a, b, c, l, rfl, rfl, hp, h⟩ := h
  refine ws_rho (by fail "rho") ?_
  have key : ∀ x : Int, 0 ≤ x % l ∧ x % l < l := fun x => ⟨Int.emod_nonneg _ (by omega), Int.emod_lt_of_pos _ hp.1⟩
  fail "dls"
  all_goals first | exact h _ _ _ _ (key _) | decide | omega | exact .inl ⟨by omega, by omega⟩ | exact .inl (.inr ⟨by decide, by decide⟩)
theorem nums_put {ns : List Int} {n : Int} (h1 : ns.Pairwise (· < ·)) (h2 : ∀ x ∈ ns, x < n) : (ns ++ [n]).Pairwise (· < ·) := by
  rw [List.pairwise_append]
  exact ⟨h1, by simp, fun a ha b hb => by simp at hb; subst hb; exact h2 a ha⟩
set_option maxHeartbeats 4000000 in
theorem fk__law_numbers {P : Program} {w : World} {K : PySem.W.Frag} {mg : Str → Option Value} {base : Heap} {cShare : Addr} (T : Txt K mg cShare) : Fk P w K mg base (wd K cShare) "_law_numbers" ["stream"] 1 dsp__law_numbers 2 := by
  obtain ⟨f, fd, F, hm⟩ := T.d__law_numbers.ex
  refine ⟨f, fd, fn_D2 F sc__law_numbers vi__law_numbers gl__law_numbers rfl (fun as M Ψ E h => ?_) (fun X as M Ψ E ok own hX hM h => ?_), hm, F.kp, F.binds fun _ _ _ _ _ _ us hl => match us, hl with | [_], _ => rfl⟩
  · obtain ⟨a, b, c, rfl, rfl, h⟩ := h <;> rfl
  have l0 : Lv X "stream" 0 := ok.lv 0 rfl (by decide) rfl rfl
  have t0 : Ls X "stream" 0 := ok.ls 0 rfl (by decide)
  have l1 : Lv X "way" 1 := ok.lv 1 rfl (by decide) rfl rfl
  have t1 : Ls X "way" 1 := ok.ls 1 rfl (by decide)
  have l2 : Lv X "number" 2 := ok.lv 2 rfl (by decide) rfl rfl
  have t2 : Ls X "number" 2 := ok.ls 2 rfl (by decide)
  have l3 : Lv X "numbers" 3 := ok.lv 3 rfl (by decide) rfl rfl
  have t3 : Ls X "numbers" 3 := ok.ls 3 rfl (by decide)
  have l4 : Lv X "step" 4 := ok.lv 4 rfl (by decide) rfl rfl
  have t4 : Ls X "step" 4 := ok.ls 4 rfl (by decide)
  have z2 : FzV 2 := ⟨⟩
  have f0 := ok.fc 0 (x := "_law_draw") rfl (fk__law_draw T) (by decide) rfl
  have b1 : Bt X "range" "range" := ok.bt 1 rfl T.b_range rfl (by decide) rfl
  have e1 : (g__law_numbers)[1]? = some ("range" : Str) := rfl
  have m1 : mg "range" = none := T.b_range
  have kShare := T.cls_Share
  have sShare : IsF X.K (wd K cShare) 0 := by rw [show X.K = K from ok.kE]; exact T.isf_Share
  have jShare : PySem.W.kitOne X.K (.ref cShare) (.ref cShare) = some true := by rw [show X.K = K from ok.kE]; exact T.kc_Share
  have qShare0 : ((wd K cShare).cf 0)[0]? = some ("over" : Str) := rfl
  have qShare1 : ((wd K cShare).cf 0)[1]? = some ("under" : Str) := rfl
  have calm := ok.calm
  have wk := ok.wk
  obtain ⟨a, b, c, rfl, rfl, h⟩ := h
  refine ws_rho (by fail "rho") ?_
  fail "dls"
  rename_i r1 _ _ _ hr1
  obtain ⟨d, hd, h1, h2⟩ : ∃ d : Int, atI [D.int 6, D.int 3000, D.int 1000000000, D.int 12] r1 = some (.int d) ∧ 0 < d ∧ d ≤ 1000000000 := by
    have q : r1 = 0 ∨ r1 = 1 ∨ r1 = 2 ∨ r1 = 3 := by omega
    rcases q with rfl | rfl | rfl | rfl <;> exact ⟨_, rfl, by decide, by decide⟩
  refine wi_seq wk rfl hd ?_
  fail "dlj"
  rename_i r2 a2 b2 c2 hr2
  refine ws_join (fun ρ M => ∃ (n a b c : Int) (R : Mm), ρ = [some (.m 0), some (.d (.int r1)), some (.d (.int n)), none, none] ∧ M = stm a b c :: R ∧ -(10 ^ 19) ≤ n ∧ n ≤ 0) (w1_if ?_) ?_
  · fail "dls"
    · rename_i r3 a3 b3 c3 hr3
      exact .inl (.inl ⟨by omega, by omega⟩)
    · exact .inl (.inr ⟨by decide, by decide⟩)
    · rename_i r3 a3 b3 c3 hr3
      obtain ⟨b1, b2⟩ := mul_in (x := r2) (y := 1 + r3) hr2.1 (Int.le_of_lt hr2.2) (by omega) (show 1 + r3 ≤ 1000000000 by omega)
      have e1 : (0 - r2) * (1 + r3) = -(r2 * (1 + r3)) := by rw [Int.zero_sub, Int.neg_mul]
      have b4 : d * 1000000000 ≤ 1000000000 * 1000000000 := by omega
      exact ⟨_, _, _, _, _, rfl, rfl, by rw [e1]; omega, by rw [e1]; omega⟩
    · exact ⟨_, _, _, _, _, rfl, rfl, by omega, by omega⟩
  · rintro ρ' M' ⟨n, a, b, c, R, rfl, rfl, n1, n2⟩
    refine ws_forget 1 [some (.m 0), some (.d (.int r1)), some (.d (.int n)), none, none] [stm a b c] (by rfl) (by simp [LeR]) rfl rfl ?_
    fail "dls"
    refine w1_for ok own ?_
    fail "dls"
    rename_i r4 _ _ _ hr4
    refine ⟨fun i ρ M => ∃ (ns : List Int) (n a b c : Int) (y : Option AV) (R : Mm), ρ = [some (.m 0), some (.d (.int r1)), some (.d (.int n)), some (.m 1), y] ∧ M = stm a b c :: .l (ns.map .int) :: R ∧ ns.length = i ∧ ns.Pairwise (· < ·) ∧ (∀ x ∈ ns, -(10 ^ 19) ≤ x ∧ x < n) ∧ -(10 ^ 19) ≤ n ∧ n ≤ i * 10 ^ 18, ⟨[], n, _, _, _, _, _, rfl, rfl, rfl, .nil, by simp, n1, by omega⟩, ?_, ?_⟩
    · rintro i d ρ' M' hi hd ⟨ns, n, a, b, c, y, R, rfl, rfl, hl, hp, hb, n1, n2⟩
      obtain ⟨hi2, rfl⟩ := rgL_mem hd
      have hm : (ns.map D.int).length = ns.length := by simp
      refine wg_n (by fail "as") ?_
      fail "nrm"
      refine ws_forget 2 [some (.m 0), some (.d (.int r1)), some (.d (.int n)), some (.m 1), some (.d (.int (0 + (i : Int))))] [stm a b c, .l (ns.map .int)] (by rfl) (by simp [LeR]) rfl rfl ?_
      have put : ∀ {n' : Int}, n < n' → n' ≤ n + 10 ^ 18 → (ns ++ [n]).length = i + 1 ∧ (ns ++ [n]).Pairwise (· < ·) ∧ (∀ x ∈ ns ++ [n], -(10 ^ 19) ≤ x ∧ x < n') ∧ -(10 ^ 19) ≤ n' ∧ n' ≤ ((i + 1 : Nat) : Int) * 10 ^ 18 := fun h1 h2 => by
        refine ⟨by simp [hl], nums_put hp fun x hx => (hb x hx).2, fun x hx => ?_, by omega, by omega⟩
        rcases List.mem_append.mp hx with q | q
        · have := hb x q; omega
        · simp at q; subst q; omega
      fail "dls"
      · omega
      · exact .inl (.inl ⟨by omega, by omega⟩)
      · rename_i hc r5 _ _ _ hr5 r6 _ _ _ hr6
        obtain ⟨b1, b2⟩ := mul_in (x := r5) (y := r6) (a := 999999999) (b := 999999999) hr5.1 (by omega) hr6.1 (by omega)
        exact ⟨_, _, _, _, _, _, _, rfl, by simp only [List.set_cons_succ, List.set_cons_zero, List.map_append, List.map_cons, List.map_nil]; rfl, put (by omega) (by omega)⟩
      · obtain ⟨d, hd, h1, h2⟩ : ∃ d : Int, atI [D.int 4, D.int 1000, D.int 1, D.int 1] r1 = some (.int d) ∧ 0 < d ∧ d ≤ 1000 := by
          have q : r1 = 0 ∨ r1 = 1 ∨ r1 = 2 ∨ r1 = 3 := by omega
          rcases q with rfl | rfl | rfl | rfl <;> exact ⟨_, rfl, by decide, by decide⟩
        refine wi_seq (by fail "as") rfl hd ?_
        fail "dls"
        rename_i r5 _ _ _ hr5
        exact ⟨_, _, _, _, _, _, _, rfl, by simp only [List.set_cons_succ, List.set_cons_zero, List.map_append, List.map_cons, List.map_nil]; rfl, put (by omega) (by omega)⟩
    · rintro ρ' M' ⟨ns, n, a, b, c, y, R, rfl, rfl, hl, hp, hb, n1, n2⟩
      rw [rgL_len] at hl n2
      fail "dls"
      exact h _ _ _ _ ⟨by omega, by omega, hp, fun x hx => by have := hb x hx; omega⟩
theorem fst_le : ∀ {ns : List Int}, ns.Pairwise (· < ·) → ∀ x ∈ ns, fst ns ≤ x
  | n :: ns, h, x, hx => by
    rw [List.pairwise_cons] at h
    show n ≤ x
    rcases List.mem_cons.mp hx with e | e
    · omega
    · have := h.1 x e; omega
theorem le_lst : ∀ {ns : List Int}, ns.Pairwise (· < ·) → ∀ x ∈ ns, x ≤ lst ns
  | [n], h, x, hx => by simp at hx; subst hx; exact Int.le_refl _
  | n :: m :: ns, h, x, hx => by
    rw [List.pairwise_cons] at h
    have ih := le_lst h.2
    have e : lst (n :: m :: ns) = lst (m :: ns) := by simp [lst]
    rw [e]
    rcases List.mem_cons.mp hx with e | e
    · have h1 := h.1 m (by simp)
      have h2 := ih m (by simp)
      omega
    · exact ih x e
theorem Nums.one {ns : List Int} (hn : Nums ns) {x : Int} (hx : x ∈ ns) : Mean ns x 1 := ⟨by decide, by decide, by have := fst_le hn.asc x hx; omega, by have := le_lst hn.asc x hx; omega⟩
theorem atI_neg1 {ns : List Int} (h : 1 ≤ ns.length) : ∃ x, atI (ns.map D.int) (-1) = some (.int x) ∧ x ∈ ns ∧ x = lst ns := by
  have ne : ns ≠ [] := by intro e; subst e; simp at h
  refine ⟨ns.getLast ne, ?_, List.getLast_mem ne, ?_⟩
  · unfold atI ixN
    rw [if_neg (by decide), if_pos (by simp; omega)]
    have e : ((-1 : Int) + ((ns.map D.int).length : Nat)).toNat = ns.length - 1 := by simp; omega
    rw [e]
    simp only [Option.bind_some, List.getElem?_map]
    rw [← List.getLast?_eq_getElem?, List.getLast?_eq_some_getLast ne]; rfl
  · unfold lst
    cases ns with
    | nil => exact absurd rfl ne
    | cons a l => simp [List.getLastD]
/-- sums with weights -/
def wsum : List Int → List Int → Int
  | x :: xs, w :: ws => x * w + wsum xs ws
  | _, _ => 0
theorem wsum_lo {m : Int} : ∀ {xs ws : List Int}, xs.length = ws.length → (∀ x ∈ xs, m ≤ x) → (∀ w ∈ ws, 0 ≤ w) → m * ws.sum ≤ wsum xs ws
  | [], [], _, _, _ => by simp [wsum]
  | x :: xs, w :: ws, hl, h1, h2 => by
    have ih := wsum_lo (m := m) (xs := xs) (ws := ws) (by simpa using hl) (fun x hx => h1 x (by simp [hx])) (fun x hx => h2 x (by simp [hx]))
    have := Int.mul_le_mul_of_nonneg_right (h1 x (by simp)) (h2 w (by simp))
    simp only [wsum, List.sum_cons, Int.mul_add]; omega
theorem wsum_hi {m : Int} : ∀ {xs ws : List Int}, xs.length = ws.length → (∀ x ∈ xs, x ≤ m) → (∀ w ∈ ws, 0 ≤ w) → wsum xs ws ≤ m * ws.sum
  | [], [], _, _, _ => by simp [wsum]
  | x :: xs, w :: ws, hl, h1, h2 => by
    have ih := wsum_hi (m := m) (xs := xs) (ws := ws) (by simpa using hl) (fun x hx => h1 x (by simp [hx])) (fun x hx => h2 x (by simp [hx]))
    have := Int.mul_le_mul_of_nonneg_right (h1 x (by simp)) (h2 w (by simp))
    simp only [wsum, List.sum_cons, Int.mul_add]; omega
theorem sum_nn : ∀ {ws : List Int}, (∀ w ∈ ws, 0 ≤ w) → 0 ≤ ws.sum
  | [], _ => by simp
  | w :: ws, h => by have := sum_nn (ws := ws) fun x hx => h x (by simp [hx]); have := h w (by simp); simp only [List.sum_cons]; omega
theorem sum_le {b : Int} : ∀ {ws : List Int}, (∀ w ∈ ws, w ≤ b) → ws.sum ≤ b * ws.length
  | [], _ => by simp
  | w :: ws, h => by
    have ih := sum_le (b := b) (ws := ws) fun x hx => h x (by simp [hx])
    have := h w (by simp)
    rw [List.sum_cons, List.length_cons]
    push_cast
    rw [Int.mul_add]; omega
theorem Nums.mean {ns ws : List Int} (hn : Nums ns) (hl : ns.length = ws.length) (h0 : ∀ w ∈ ws, 0 ≤ w) (h1 : 1 ≤ ws.sum) (h2 : ws.sum ≤ 40) : Mean ns (wsum ns ws) ws.sum :=
  ⟨h1, h2, wsum_lo hl (fst_le hn.asc) h0, wsum_hi hl (le_lst hn.asc) h0⟩
def gW (ns ws : List Int) : D → Option D
  | .int i => some (.int (ns.getD i.toNat 0 * ws.getD i.toNat 0))
  | _ => none
theorem rgL0 (n : Nat) : rgL 0 n = (List.range n).map fun i : Nat => D.int (i : Int) := by
  unfold rgL
  apply List.map_congr_left
  intro i _
  rw [Int.zero_add]
theorem gW_sum {ns ws : List Int} (h : ns.length = ws.length) : ∃ ys : List Int, (rgL 0 ns.length).filterMap (gW ns ws) = ys.map .int ∧ ys.sum = wsum ns ws := by
  refine ⟨(List.range ns.length).map fun i => ns.getD i 0 * ws.getD i 0, ?_, ?_⟩
  · rw [rgL0, List.filterMap_map, List.map_map]
    induction List.range ns.length with
    | nil => rfl
    | cons a l ih => rw [List.filterMap_cons, List.map_cons, ← ih]; rfl
  · induction ns generalizing ws with
    | nil => rfl
    | cons x xs ih =>
      cases ws with
      | nil => simp at h
      | cons w ws =>
        rw [List.length_cons, List.range_succ_eq_map, List.map_cons, List.sum_cons, List.map_map, wsum, ← ih (ws := ws) (by simpa using h)]
        rfl
def w0 (n : Nat) (i : Int) : Int := if i = 0 then 1 else if i = (n : Int) - 1 then 1 else 0
def gZ (n : Nat) : D → Option D
  | .int i => some (.int (w0 n i))
  | _ => none
def ws0 (n : Nat) : List Int := (List.range n).map fun i : Nat => w0 n (i : Int)
theorem ws0_len {n : Nat} : (ws0 n).length = n := by simp [ws0]
theorem ixN0 {n : Nat} (h : 0 < n) : ixN n 0 = some 0 := by
  unfold ixN
  rw [if_pos (by decide), if_pos (by omega)]; rfl
theorem gZ_all {n : Nat} : (rgL 0 n).filterMap (gZ n) = (ws0 n).map .int := by
  rw [rgL0, List.filterMap_map]
  unfold ws0
  rw [List.map_map]
  induction List.range n with
  | nil => rfl
  | cons a l ih => rw [List.filterMap_cons, List.map_cons, ← ih]; rfl
theorem w0_in (n : Nat) (i : Int) : 0 ≤ w0 n i ∧ w0 n i ≤ 1 := by unfold w0; split; omega; split <;> omega
theorem ws0_put {n : Nat} {r : Int} (h1 : 1 ≤ n) (h8 : n ≤ 8) (hr : 0 ≤ r ∧ r < 30) : ∃ ws : List Int, ((ws0 n).map D.int).set 0 (.int (1 + r)) = ws.map .int ∧ (∀ w ∈ ws, 0 ≤ w ∧ w ≤ 40) ∧ n = ws.length ∧ 1 ≤ ws.sum ∧ ws.sum ≤ 40 := by
  obtain ⟨m, rfl⟩ : ∃ m, n = m + 1 := ⟨n - 1, by omega⟩
  let t := (List.range m).map fun i : Nat => w0 (m + 1) ((i + 1 : Nat) : Int)
  have ht : ∀ w ∈ t, 0 ≤ w ∧ w ≤ 1 := fun w hw => by
    obtain ⟨i, _, rfl⟩ := List.mem_map.mp hw
    exact w0_in _ _
  have e : ws0 (m + 1) = w0 (m + 1) 0 :: t := by
    unfold ws0
    rw [List.range_succ_eq_map, List.map_cons, List.map_map]; rfl
  have tl : t.length = m := by simp [t]
  refine ⟨(1 + r) :: t, by rw [e]; rfl, fun w hw => ?_, by simp [tl], ?_, ?_⟩
  · rcases List.mem_cons.mp hw with q | q
    · omega
    · have := ht w q; omega
  · have := sum_nn (ws := t) fun w hw => (ht w hw).1
    rw [List.sum_cons]; omega
  · have := sum_le (b := 1) (ws := t) fun w hw => (ht w hw).2
    rw [List.sum_cons]; omega
set_option maxHeartbeats 4000000 in
theorem fk__law_mean {P : Program} {w : World} {K : PySem.W.Frag} {mg : Str → Option Value} {base : Heap} {cShare : Addr} (T : Txt K mg cShare) : Fk P w K mg base (wd K cShare) "_law_mean" ["stream", "numbers"] 1 dsp__law_mean 2 := by
  obtain ⟨f, fd, F, hm⟩ := T.d__law_mean.ex
  refine ⟨f, fd, fn_D2 F sc__law_mean vi__law_mean gl__law_mean rfl (fun as M Ψ E h => ?_) (fun X as M Ψ E ok own hX hM h => ?_), hm, F.kp, F.binds fun _ _ _ _ _ _ us hl => match us, hl with | [_, _], _ => rfl⟩
  · obtain ⟨a, b, c, ns, rfl, rfl, hn, h⟩ := h <;> rfl
  have l0 : Lv X "stream" 0 := ok.lv 0 rfl (by decide) rfl rfl
  have t0 : Ls X "stream" 0 := ok.ls 0 rfl (by decide)
  have l1 : Lv X "numbers" 1 := ok.lv 1 rfl (by decide) rfl rfl
  have t1 : Ls X "numbers" 1 := ok.ls 1 rfl (by decide)
  have l2 : Lv X "way" 2 := ok.lv 2 rfl (by decide) rfl rfl
  have t2 : Ls X "way" 2 := ok.ls 2 rfl (by decide)
  have l3 : Lv X "weights" 3 := ok.lv 3 rfl (by decide) rfl rfl
  have t3 : Ls X "weights" 3 := ok.ls 3 rfl (by decide)
  have c4 : (N__law_mean)[4]? = some ("number" : Str) := rfl
  have c5 : (N__law_mean)[5]? = some ("place" : Str) := rfl
  have bx0 : Tx X "int" "int" := ok.tx T.b_int rfl (by decide) rfl
  have f0 := ok.fc 0 (x := "_law_draw") rfl (fk__law_draw T) (by decide) rfl
  have b1 : Bk X "len" "len" := ok.bk 1 rfl T.b_len rfl (by decide) rfl
  have b2 : Bk X "sum" "sum" := ok.bk 2 rfl T.b_sum rfl (by decide) rfl
  have b3 : Bt X "range" "range" := ok.bt 3 rfl T.b_range rfl (by decide) rfl
  have e3 : (g__law_mean)[3]? = some ("range" : Str) := rfl
  have m3 : mg "range" = none := T.b_range
  have kShare := T.cls_Share
  have sShare : IsF X.K (wd K cShare) 0 := by rw [show X.K = K from ok.kE]; exact T.isf_Share
  have jShare : PySem.W.kitOne X.K (.ref cShare) (.ref cShare) = some true := by rw [show X.K = K from ok.kE]; exact T.kc_Share
  have qShare0 : ((wd K cShare).cf 0)[0]? = some ("over" : Str) := rfl
  have qShare1 : ((wd K cShare).cf 0)[1]? = some ("under" : Str) := rfl
  have calm := ok.calm
  have wk := ok.wk
  obtain ⟨a, b, c, ns, rfl, rfl, hn, h⟩ := h
  refine ws_rho (by fail "rho") ?_
  have hm : (ns.map D.int).length = ns.length := by simp
  have h2 := hn.lo
  have h8 := hn.hi
  fail "dls"
  · rename_i r _ _ _ hr
    obtain ⟨x, hx, _, hxm⟩ := at_cs (cs := ns) hr.1 (by omega)
    refine wi_seq wk rfl hx ?_
    fail "dls"
    exact h _ _ _ _ _ (hn.one hxm)
  · rename_i r _ _ _ hr
    obtain ⟨x, hx, hxm⟩ : ∃ x, atI (ns.map D.int) (0 - r) = some (.int x) ∧ x ∈ ns := by
      have q : r = 0 ∨ r = 1 := by omega
      rcases q with rfl | rfl
      · obtain ⟨x, hx, _, hxm⟩ := at_cs (cs := ns) (i := 0) (by omega) (by omega)
        exact ⟨x, hx, hxm⟩
      · obtain ⟨x, hx, hxm, _⟩ := atI_neg1 (ns := ns) (by omega)
        exact ⟨x, hx, hxm⟩
    refine wi_seq wk rfl hx ?_
    fail "dls"
    exact h _ _ _ _ _ (hn.one hxm)
  refine w1_sE t3 hX (by intros; rfl) (we_lcJ [("number", 4)] [4] (by fail "ok") hX (by decide +kernel) ?_)
  fail "dls"
  refine ⟨by omega, fun i acc M => ∃ ws : List Int, acc = ws.map .int ∧ ws.length = i ∧ (∀ w ∈ ws, 0 ≤ w ∧ w ≤ 4) ∧ ∃ a b c, M = [stm a b c], ⟨[], rfl, rfl, by simp, _, _, _, rfl⟩, ?_, ?_⟩
  · rintro i d acc M2 hd ha ⟨ws, rfl, hl, hb, a, b, c, rfl⟩ _
    fail "dls"
    rename_i r _ _ _ hr
    exact ⟨ws ++ [r], by simp, by simp [hl], fun w hw => by rcases List.mem_append.mp hw with q | q; exact hb w q; simp at q; subst q; omega, _, _, _, rfl⟩
  · rintro acc M2 _ _ ⟨ws, rfl, hl, hb, a, b, c, rfl⟩
    rw [hm] at hl
    fail "dls"
    refine wc_sum (by fail "as") (by fail "as") (ns := ws) (by rfl) ?_
    fail "dls"
    · skip
      refine w1_sE t3 hX (by intros; rfl) (we_lcO [("place", 5)] [5] (by fail "ok") hX (by decide +kernel) ?_)
      fail "dls"
      refine ⟨by rw [rgL_len]; omega, gZ ns.length, ?_, ?_⟩
      · intro j d hd
        obtain ⟨hj, rfl⟩ := rgL_mem hd
        fail "dls"
        · rename_i hc
          simp [gZ, w0, hc]
        · rename_i hc
          simp only [gZ, w0, if_neg hc, hm]
          congr 2
          by_cases q : (0 : Int) + (j : Int) = (ns.length : Int) - 1
          · rw [if_pos q, decide_eq_true q, if_pos rfl]
          · rw [if_neg q, decide_eq_false q, if_neg Bool.false_ne_true]
      rw [show ((List.map D.int ns).length : Int).toNat = ns.length by omega, gZ_all]
      fail "dls"
      rename_i r9 _ _ _ hr9
      obtain ⟨WS, eW, hws, hl2, hs1, hs2⟩ := ws0_put (n := ns.length) (r := r9) (by omega) (by omega) hr9
      refine wset_n (ds := (ws0 ns.length).map .int) (j := 0) (by rfl) (ixN0 (by rw [List.length_map, ws0_len]; omega)) (by rw [eW]) ?_
      fail "dls"
      refine we_lcO [("place", 5)] [5] (by fail "ok") hX (by decide +kernel) ?_
      fail "dls"
      refine ⟨by rw [rgL_len]; omega, gW ns WS, ?_, ?_⟩
      · intro j d hd
        obtain ⟨hj, rfl⟩ := rgL_mem hd
        obtain ⟨x, hx, hx2, hxm⟩ := at_cs (cs := ns) (i := 0 + (j : Int)) (by omega) (by omega)
        obtain ⟨y, hy, hy2, hym⟩ := at_cs (cs := WS) (i := 0 + (j : Int)) (by omega) (by omega)
        have hy3 : 0 ≤ y ∧ y ≤ 40 := hws y hym
        simp only [Int.zero_add, Int.toNat_natCast] at hx2 hy2
        fail "dls"
        refine wi_seq (by fail "as") rfl hx ?_
        fail "dls"
        refine wi_seq (by fail "as") (by with_unfolding_all rfl) hy ?_
        fail "dls"
        · exact .inl (.inr ⟨by omega, by omega⟩)
        · show some _ = _
          simp [gW, List.getD, hx2, hy2]
      obtain ⟨ys, e1, e2⟩ := gW_sum (ns := ns) (ws := WS) hl2
      rw [show ((List.map D.int ns).length : Int).toNat = ns.length by omega, e1]
      fail "dls"
      refine wc_sum (by fail "as") (by fail "as") (ns := ys) (by rfl) ?_
      fail "dls"
      refine wc_sum (by fail "as") (by fail "as") (ns := WS) (by with_unfolding_all rfl) ?_
      fail "dls"
      rw [e2]
      exact h _ _ _ _ _ (hn.mean hl2 (fun w hw => (hws w hw).1) hs1 hs2)
    · skip
      refine w1_sE t3 hX (by intros; rfl) (we_lcO [("place", 5)] [5] (by fail "ok") hX (by decide +kernel) ?_)
      fail "dls"
      refine ⟨by rw [rgL_len]; omega, gZ ns.length, ?_, ?_⟩
      · intro j d hd
        obtain ⟨hj, rfl⟩ := rgL_mem hd
        fail "dls"
        · rename_i hc
          simp [gZ, w0, hc]
        · rename_i hc
          simp only [gZ, w0, if_neg hc, hm]
          congr 2
          by_cases q : (0 : Int) + (j : Int) = (ns.length : Int) - 1
          · rw [if_pos q, decide_eq_true q, if_pos rfl]
          · rw [if_neg q, decide_eq_false q, if_neg Bool.false_ne_true]
      rw [show ((List.map D.int ns).length : Int).toNat = ns.length by omega, gZ_all]
      fail "dls"
      rename_i r9 _ _ _ hr9
      obtain ⟨WS, eW, hws, hl2, hs1, hs2⟩ := ws0_put (n := ns.length) (r := r9) (by omega) (by omega) hr9
      refine wset_n (ds := (ws0 ns.length).map .int) (j := 0) (by rfl) (ixN0 (by rw [List.length_map, ws0_len]; omega)) (by rw [eW]) ?_
      fail "dls"
      refine we_lcO [("place", 5)] [5] (by fail "ok") hX (by decide +kernel) ?_
      fail "dls"
      refine ⟨by rw [rgL_len]; omega, gW ns WS, ?_, ?_⟩
      · intro j d hd
        obtain ⟨hj, rfl⟩ := rgL_mem hd
        obtain ⟨x, hx, hx2, hxm⟩ := at_cs (cs := ns) (i := 0 + (j : Int)) (by omega) (by omega)
        obtain ⟨y, hy, hy2, hym⟩ := at_cs (cs := WS) (i := 0 + (j : Int)) (by omega) (by omega)
        have hy3 : 0 ≤ y ∧ y ≤ 40 := hws y hym
        simp only [Int.zero_add, Int.toNat_natCast] at hx2 hy2
        fail "dls"
        refine wi_seq (by fail "as") rfl hx ?_
        fail "dls"
        refine wi_seq (by fail "as") (by with_unfolding_all rfl) hy ?_
        fail "dls"
        · exact .inl (.inr ⟨by omega, by omega⟩)
        · show some _ = _
          simp [gW, List.getD, hx2, hy2]
      obtain ⟨ys, e1, e2⟩ := gW_sum (ns := ns) (ws := WS) hl2
      rw [show ((List.map D.int ns).length : Int).toNat = ns.length by omega, e1]
      fail "dls"
      refine wc_sum (by fail "as") (by fail "as") (ns := ys) (by rfl) ?_
      fail "dls"
      refine wc_sum (by fail "as") (by fail "as") (ns := WS) (by with_unfolding_all rfl) ?_
      fail "dls"
      rw [e2]
      exact h _ _ _ _ _ (hn.mean hl2 (fun w hw => (hws w hw).1) hs1 hs2)
    · rename_i hc _
      have hl2 : ns.length = ws.length := by omega
      have hws : ∀ w ∈ ws, 0 ≤ w ∧ w ≤ 40 := fun w hw => by have := hb w hw; omega
      have hs0 := sum_nn (ws := ws) fun w hw => (hb w hw).1
      have hs1 : 1 ≤ ws.sum := by omega
      have hs2 : ws.sum ≤ 40 := by have := sum_le (b := 4) (ws := ws) fun w hw => (hb w hw).2; omega
      refine we_lcO [("place", 5)] [5] (by fail "ok") hX (by decide +kernel) ?_
      fail "dls"
      refine ⟨by rw [rgL_len]; omega, gW ns ws, ?_, ?_⟩
      · intro j d hd
        obtain ⟨hj, rfl⟩ := rgL_mem hd
        obtain ⟨x, hx, hx2, hxm⟩ := at_cs (cs := ns) (i := 0 + (j : Int)) (by omega) (by omega)
        obtain ⟨y, hy, hy2, hym⟩ := at_cs (cs := ws) (i := 0 + (j : Int)) (by omega) (by omega)
        have hy3 : 0 ≤ y ∧ y ≤ 40 := hws y hym
        simp only [Int.zero_add, Int.toNat_natCast] at hx2 hy2
        fail "dls"
        refine wi_seq (by fail "as") rfl hx ?_
        fail "dls"
        refine wi_seq (by fail "as") (by with_unfolding_all rfl) hy ?_
        fail "dls"
        · exact .inl (.inr ⟨by omega, by omega⟩)
        · show some _ = _
          simp [gW, List.getD, hx2, hy2]
      obtain ⟨ys, e1, e2⟩ := gW_sum (ns := ns) (ws := ws) hl2
      rw [show ((List.map D.int ns).length : Int).toNat = ns.length by omega, e1]
      fail "dls"
      refine wc_sum (by fail "as") (by fail "as") (ns := ys) (by rfl) ?_
      fail "dls"
      refine wc_sum (by fail "as") (by fail "as") (ns := ws) (by with_unfolding_all rfl) ?_
      fail "dls"
      rw [e2]
      exact h _ _ _ _ _ (hn.mean hl2 (fun w hw => (hws w hw).1) hs1 hs2)
set_option maxHeartbeats 4000000 in
theorem fk__law_at {P : Program} {w : World} {K : PySem.W.Frag} {mg : Str → Option Value} {base : Heap} {cShare : Addr} (T : Txt K mg cShare) : Fk P w K mg base (wd K cShare) "_law_at" ["stream", "numbers"] 1 dsp__law_at 2 := by
  obtain ⟨f, fd, F, hm⟩ := T.d__law_at.ex
  refine ⟨f, fd, fn_D2 F sc__law_at vi__law_at gl__law_at rfl (fun as M Ψ E h => ?_) (fun X as M Ψ E ok own hX hM h => ?_), hm, F.kp, F.binds fun _ _ _ _ _ _ us hl => match us, hl with | [_, _], _ => rfl⟩
  · obtain ⟨a, b, c, ns, rfl, rfl, hn, h⟩ := h <;> rfl
  have l0 : Lv X "stream" 0 := ok.lv 0 rfl (by decide) rfl rfl
  have t0 : Ls X "stream" 0 := ok.ls 0 rfl (by decide)
  have l1 : Lv X "numbers" 1 := ok.lv 1 rfl (by decide) rfl rfl
  have t1 : Ls X "numbers" 1 := ok.ls 1 rfl (by decide)
  have l2 : Lv X "way" 2 := ok.lv 2 rfl (by decide) rfl rfl
  have t2 : Ls X "way" 2 := ok.ls 2 rfl (by decide)
  have f0 := ok.fc 0 (x := "_law_draw") rfl (fk__law_draw T) (by decide) rfl
  have b1 : Bk X "len" "len" := ok.bk 1 rfl T.b_len rfl (by decide) rfl
  have kShare := T.cls_Share
  have sShare : IsF X.K (wd K cShare) 0 := by rw [show X.K = K from ok.kE]; exact T.isf_Share
  have jShare : PySem.W.kitOne X.K (.ref cShare) (.ref cShare) = some true := by rw [show X.K = K from ok.kE]; exact T.kc_Share
  have qShare0 : ((wd K cShare).cf 0)[0]? = some ("over" : Str) := rfl
  have qShare1 : ((wd K cShare).cf 0)[1]? = some ("under" : Str) := rfl
  have calm := ok.calm
  have wk := ok.wk
  obtain ⟨a, b, c, ns, rfl, rfl, hn, h⟩ := h
  refine ws_rho (by fail "rho") ?_
  have hm : (ns.map D.int).length = ns.length := by simp
  have h2 := hn.lo
  have h8 := hn.hi
  have hbd := hn.bd
  fail "dls"
  · obtain ⟨x, hx, _, hxm⟩ := at_cs (cs := ns) (i := 0) (by omega) (by omega)
    have := hbd x hxm
    refine wi_seq wk rfl hx ?_
    fail "dls"
    exact h _ _ _ _ (by omega)
  · obtain ⟨x, hx, hxm, _⟩ := atI_neg1 (ns := ns) (by omega)
    have := hbd x hxm
    refine wi_seq wk rfl hx ?_
    fail "dls"
    exact h _ _ _ _ (by omega)
  · rename_i r _ _ _ hr
    obtain ⟨x, hx, _, hxm⟩ := at_cs (cs := ns) hr.1 (by omega)
    have := hbd x hxm
    refine wi_seq wk rfl hx ?_
    fail "dls"
    rename_i r2 _ _ _ hr2
    obtain ⟨d, hd, h1, h2⟩ : ∃ d : Int, atI [D.int 0, D.int 0, D.int 1, D.int (-1)] r2 = some (.int d) ∧ -1 ≤ d ∧ d ≤ 1 := by
      have q : r2 = 0 ∨ r2 = 1 ∨ r2 = 2 ∨ r2 = 3 := by omega
      rcases q with rfl | rfl | rfl | rfl <;> exact ⟨_, rfl, by decide, by decide⟩
    refine wi_seq wk rfl hd ?_
    fail "dls"
    exact h _ _ _ _ (by omega)
/-! the law: tails reckoned over all pairs -/
def m_of (o u : Int) : Rat := Rat.divInt o u
theorem le_dv {a b c : Rat} (h : 0 < c) : a ≤ b / c ↔ a * c ≤ b := by rw [← Rat.not_lt, ← Rat.not_lt, Rat.div_lt_iff h]
theorem dv_le {a b c : Rat} (h : 0 < c) : b / c ≤ a ↔ b ≤ a * c := by rw [← Rat.not_lt, ← Rat.not_lt, Rat.lt_div_iff h]
theorem Mean.mid {ns : List Int} {o u : Int} (h : Mean ns o u) (hn : Nums ns) : Mid ns (Rat.divInt o u) := by
  have u0 : (0 : Int) < u := h.u1
  have hu := cast_lt u0
  have n2 := hn.lo
  obtain ⟨x, hx⟩ := at_lt (xs := ns) (i := 0) (by omega)
  obtain ⟨y, hy⟩ := at_lt (xs := ns) (i := ns.length - 1) (by omega)
  have ex : fst ns = x := by
    cases ns with
    | nil => cases hx
    | cons a l => simp at hx; subst hx; rfl
  have ey : lst ns = y := by
    have ne : ns ≠ [] := by intro e; subst e; simp at n2
    rw [← List.getLast?_eq_getElem?, List.getLast?_eq_some_getLast ne] at hy
    cases hy
    cases ns with
    | nil => exact absurd rfl ne
    | cons a l => simp [lst, List.getLastD]
  have bx := hn.bd x (mem_at hx)
  have by' := hn.bd y (mem_at hy)
  have h1 := h.lo
  have h2 := h.hi
  have u2 := h.u2
  rw [ex] at h1
  rw [ey] at h2
  have e : Rat.divInt o u = (o : Rat) / u := by rw [Rat.divInt_eq_div]
  have q1 := cast_le h1
  have q2 := cast_le h2
  rw [Rat.intCast_mul] at q1 q2
  refine ⟨sz_di h.u1 ?_ ?_, fun z hz => ?_, fun z hz => ?_⟩
  · have a1 : -(10 ^ 20) * 40 ≤ x * u := by
      have := Int.mul_le_mul_of_nonneg_right (Int.le_of_lt bx.1) (Int.le_of_lt u0)
      have := Int.mul_le_mul_of_nonpos_left (a := -(10 ^ 20 : Int)) (by decide) u2
      omega
    have a2 : y * u ≤ 10 ^ 20 * 40 := by
      have := Int.mul_le_mul_of_nonneg_right (Int.le_of_lt by'.2) (Int.le_of_lt u0)
      have := Int.mul_le_mul_of_nonneg_left u2 (by decide : (0 : Int) ≤ 10 ^ 20)
      omega
    unfold Bd
    omega
  · unfold Bd; omega
  · rw [hx] at hz; cases hz
    rw [e]
    exact (le_dv hu).mpr q1
  · rw [hy] at hz; cases hz
    rw [e]
    exact (dv_le hu).mpr q2
def ful (u x y : Int) : Int := if (y - x) * u > 1 then (y - x) * u else 1
def ovr (o u t x y : Int) : Int := (o - x * u) * stp t y + (ful u x y - (o - x * u)) * stp t x
def vl (o u t x y : Int) : Rat := Rat.divInt (ovr o u t x y) (ful u x y)
structure Le2 (ns : List Int) (o u : Int) (i j : Nat) (x y : Int) : Prop where
  le : i ≤ j
  ax : ns[i]? = some x
  bx : ns[j]? = some y
  lo : x * u ≤ o
  hi : o ≤ y * u
theorem ful_pos {u x y : Int} : 0 < ful u x y := by unfold ful; split <;> omega
theorem lt_di {a b c d : Int} (hb : 0 < b) (hd : 0 < d) : Rat.divInt a b < Rat.divInt c d ↔ a * d < c * b := by
  have h1 := cast_lt hb
  have h2 := cast_lt hd
  rw [Rat.divInt_eq_div, Rat.divInt_eq_div, Rat.div_lt_iff h1]
  have e : (c : Rat) / d * b = (c * b) / d := by grind
  rw [e, Rat.lt_div_iff h2, ← Rat.intCast_mul, ← Rat.intCast_mul, Rat.intCast_lt_intCast]
section
variable {ns : List Int} {o u t x y : Int} {i j : Nat}
theorem vl_eq (h : x < y) (hu : 0 < u) : vl o u t x y = val (Rat.divInt o u) t x y := by
  have h1 : 0 < (y - x) * u := Int.mul_pos (by omega) hu
  have ef : ful u x y = (y - x) * u := by unfold ful; split <;> omega
  have r1 := cast_lt h
  have r2 := cast_lt hu
  have r2 : (0 : Rat) < u := r2
  unfold vl ovr val rv pv
  rw [ef, stp_val, stp_val, one_eq, di_one, di_one, Rat.divInt_eq_div, Rat.divInt_eq_div]
  simp only [Rat.intCast_mul, Rat.intCast_sub, Rat.intCast_add]
  generalize (stp t x : Rat) = p
  generalize (stp t y : Rat) = q
  have r3 : (y : Rat) - x ≠ 0 := by grind
  have r4 : (u : Rat) ≠ 0 := by grind
  grind
theorem vl_same (hu : 0 < u) (h1 : x * u ≤ o) (h2 : o ≤ x * u) : vl o u t x x = (stp t x : Rat) := by
  have e : o - x * u = 0 := by omega
  have ef : ful u x x = 1 := by unfold ful; rw [Int.sub_self, Int.zero_mul]; rfl
  unfold vl ovr
  rw [e, ef, di_one]
  congr 1
  omega
theorem Pair.le2 {a b : Nat} (h : Pair ns (Rat.divInt o u) a b x y) (hn : Nums ns) (hu : 0 < u) : Le2 ns o u a b x y := by
  have hl := h.lt2 hn
  have r2 : (0 : Rat) < u := cast_lt hu
  have r1 := cast_lt hl
  have e := pv_mul (m := Rat.divInt o u) hl
  have p1 : 0 ≤ pv (Rat.divInt o u) x y * ((y : Rat) - x) := Rat.mul_nonneg h.p0 (by grind)
  have p2 : 0 ≤ rv (Rat.divInt o u) x y * ((y : Rat) - x) := Rat.mul_nonneg h.r0 (by grind)
  unfold rv at p2
  rw [one_eq] at p2
  rw [Rat.divInt_eq_div] at e p1 p2
  have q1 : (x : Rat) ≤ (o : Rat) / u := by grind
  have q2 : (o : Rat) / u ≤ (y : Rat) := by grind
  rw [le_dv r2, ← Rat.intCast_mul, Rat.intCast_le_intCast] at q1
  rw [dv_le r2, ← Rat.intCast_mul, Rat.intCast_le_intCast] at q2
  exact ⟨Nat.le_of_lt h.lt, h.ax, h.bx, q1, q2⟩
theorem Le2.pair (h : Le2 ns o u i j x y) (hn : Nums ns) (hu : 0 < u) : ∃ a b v w, Pair ns (Rat.divInt o u) a b v w ∧ vl o u t x y = val (Rat.divInt o u) t v w := by
  have r2 : (0 : Rat) < u := cast_lt hu
  have q1 : (x : Rat) ≤ Rat.divInt o u := by
    rw [Rat.divInt_eq_div, le_dv r2, ← Rat.intCast_mul, Rat.intCast_le_intCast]; exact h.lo
  have q2 : Rat.divInt o u ≤ (y : Rat) := by
    rw [Rat.divInt_eq_div, dv_le r2, ← Rat.intCast_mul, Rat.intCast_le_intCast]; exact h.hi
  by_cases e : i = j
  · subst e
    have ex := h.ax.symm.trans h.bx
    cases ex
    have em : Rat.divInt o u = (x : Rat) := Rat.le_antisymm q2 q1
    rw [vl_same hu h.lo h.hi]
    have n2 := hn.lo
    have li := lt_at h.ax
    by_cases z : i = 0
    · subst z
      obtain ⟨w, hw⟩ := at_lt (xs := ns) (i := 1) (by omega)
      have hl := asc_lt hn h.ax hw (by decide)
      have e0 : pv (Rat.divInt o u) x w = 0 := by
        have := pv_mul (m := Rat.divInt o u) hl
        have := cast_lt hl
        rw [em] at *
        grind
      refine ⟨0, 1, x, w, ⟨by decide, h.ax, hw, pv_nn hl q1, rv_nn hl (Rat.le_trans q2 (Rat.le_of_lt (cast_lt hl)))⟩, ?_⟩
      unfold val rv
      rw [stp_val, stp_val, e0, one_eq]
      grind
    · obtain ⟨w, hw⟩ := at_lt (xs := ns) (i := i - 1) (by omega)
      have hl := asc_lt hn hw h.ax (by omega)
      have e0 : pv (Rat.divInt o u) w x = 1 := by
        have := pv_mul (m := Rat.divInt o u) hl
        have := cast_lt hl
        rw [em] at *
        grind
      refine ⟨i - 1, i, w, x, ⟨by omega, hw, h.ax, pv_nn hl (Rat.le_trans (Rat.le_of_lt (cast_lt hl)) q1), rv_nn hl q2⟩, ?_⟩
      unfold val rv
      rw [stp_val, stp_val, e0, one_eq]
      grind
  · have hl := asc_lt hn h.ax h.bx (by have := h.le; omega)
    exact ⟨i, j, x, y, ⟨by have := h.le; omega, h.ax, h.bx, pv_nn hl q1, rv_nn hl q2⟩, vl_eq hl hu⟩
end
structure GI (ns : List Int) (o u t : Int) (P : Nat → Nat → Prop) (a b : Int) : Prop where
  b0 : 0 < b
  sa : Bd 200 a
  sb : Bd 200 b
  or : (a = 0 ∧ b = 1) ∨ ∃ i j x y, Le2 ns o u i j x y ∧ Rat.divInt a b = vl o u t x y
  all : ∀ i j x y, Le2 ns o u i j x y → P i j → vl o u t x y ≤ Rat.divInt a b
structure LI (ns : List Int) (o u t : Int) (P : Nat → Nat → Prop) (a b : Int) : Prop where
  b0 : 0 < b
  sa : Bd 200 a
  sb : Bd 200 b
  or : (a = 1 ∧ b = 1) ∨ ∃ i j x y, Le2 ns o u i j x y ∧ Rat.divInt a b = vl o u t x y
  all : ∀ i j x y, Le2 ns o u i j x y → P i j → Rat.divInt a b ≤ vl o u t x y
theorem val_01 {ns : List Int} {m : Rat} {a b : Nat} {t x y : Int} (h : Pair ns m a b x y) : 0 ≤ val m t x y ∧ val m t x y ≤ 1 := by
  have p0 := h.p0
  have r0 := h.r0
  have e1 : rv m x y + pv m x y = 1 := by unfold rv; rw [one_eq]; grind
  unfold val
  split <;> split <;> constructor <;> grind
theorem GI.fin {ns : List Int} {o u t a b : Int} {g : Rat} (h : GI ns o u t (fun _ _ => True) a b) (hn : Nums ns) (hu : 0 < u) (hg : IsG ns (Rat.divInt o u) t g) : Rat.divInt a b = g := by
  obtain ⟨⟨c, d, v, w, hp, e⟩, hm⟩ := hg
  have h1 : g ≤ Rat.divInt a b := by
    rw [e, ← vl_eq (hp.lt2 hn) hu]
    exact h.all _ _ _ _ (hp.le2 hn hu) trivial
  have h2 : Rat.divInt a b ≤ g := by
    rcases h.or with ⟨rfl, rfl⟩ | ⟨i, j, x, y, hl, e2⟩
    · rw [di01, e]; exact (val_01 hp).1
    · obtain ⟨c, d, v, w, hq, e3⟩ := hl.pair (t := t) hn hu
      rw [e2, e3]; exact hm _ _ _ _ hq
  exact Rat.le_antisymm h2 h1
theorem LI.fin {ns : List Int} {o u t a b : Int} {g : Rat} (h : LI ns o u t (fun _ _ => True) a b) (hn : Nums ns) (hu : 0 < u) (hg : IsL ns (Rat.divInt o u) t g) : Rat.divInt a b = g := by
  obtain ⟨⟨c, d, v, w, hp, e⟩, hm⟩ := hg
  have h1 : Rat.divInt a b ≤ g := by
    rw [e, ← vl_eq (hp.lt2 hn) hu]
    exact h.all _ _ _ _ (hp.le2 hn hu) trivial
  have h2 : g ≤ Rat.divInt a b := by
    rcases h.or with ⟨rfl, rfl⟩ | ⟨i, j, x, y, hl, e2⟩
    · rw [di11, e]; exact (val_01 hp).2
    · obtain ⟨c, d, v, w, hq, e3⟩ := hl.pair (t := t) hn hu
      rw [e2, e3]; exact hm _ _ _ _ hq
  exact Rat.le_antisymm h1 h2
theorem bd_num {ns : List Int} {o u : Int} (hm : Mean ns o u) (hn : Nums ns) {i : Nat} {x : Int} (hx : ns[i]? = some x) : Bd 67 x ∧ Bd 6 u ∧ Bd 74 (x * u) := by
  have h1 := hn.bd67 (mem_at hx)
  have u1 := hm.u1
  have u2 := hm.u2
  have h2 : Bd 6 u := by unfold Bd; omega
  exact ⟨h1, h2, (h1.mul h2).mono (by decide)⟩
theorem bd_o {ns : List Int} {o u : Int} (hm : Mean ns o u) (hn : Nums ns) : Bd 75 o := by
  have n2 := hn.lo
  have hx : ∃ x, ns[0]? = some x ∧ fst ns = x := by
    cases ns with
    | nil => simp at n2
    | cons a l => exact ⟨a, rfl, rfl⟩
  have hy : ∃ y, ns[ns.length - 1]? = some y ∧ lst ns = y := by
    have ne : ns ≠ [] := by intro e; subst e; simp at n2
    refine ⟨ns.getLast ne, by rw [← List.getLast?_eq_getElem?, List.getLast?_eq_some_getLast ne], ?_⟩
    cases ns with
    | nil => exact absurd rfl ne
    | cons a l => simp [lst, List.getLastD]
  obtain ⟨x, hx, ex⟩ := hx
  obtain ⟨y, hy, ey⟩ := hy
  have h1 := (bd_num hm hn hx).2.2
  have h2 := (bd_num hm hn hy).2.2
  have h3 := hm.lo
  have h4 := hm.hi
  rw [ex] at h3
  rw [ey] at h4
  unfold Bd at *
  omega
theorem bd_stp {t x : Int} : Bd 1 (stp t x) := by
  unfold Bd
  rcases stp_cases t x with ⟨_, e⟩ | ⟨_, e⟩ <;> rw [e] <;> decide
theorem bd_ful {u x y : Int} (h : Bd 76 ((y - x) * u)) : Bd 76 (ful u x y) := by
  unfold ful
  split
  · exact h
  · exact bd_one (by decide)
def dsp__law_tails : DSp := fun as M Ψ _ => ∃ (ns : List Int) (o : Int) (u : Int) (a : Int), as = [.d (lI ns), .d (prD (o, u)), .d (.int a)] ∧ (Nums ns ∧ Mean ns o u) ∧ ∀ (x : Int) (y : Int) (z : Int) (w : Int), (GI ns o u a (fun _ _ => True) x y ∧ LI ns o u a (fun _ _ => True) z w) → Ψ (.d (.tup [prD (x, y), prD (z, w)])) M
theorem ca_lts {C : Dl.Ctx} {ρ : Rho} {M : Mm} {Ψ : AV → Mm → Prop} {ns : List Int} {o : Int} {u : Int} {a : Int} (hp : Nums ns ∧ Mean ns o u) (h : ∀ (x : Int) (y : Int) (z : Int) (w : Int), (GI ns o u a (fun _ _ => True) x y ∧ LI ns o u a (fun _ _ => True) z w) → Ψ (.d (.tup [prD (x, y), prD (z, w)])) M) : call0 C ρ dsp__law_tails [.d (lI ns), .d (prD (o, u)), .d (.int a)] M Ψ := ⟨ns, o, u, a, rfl, hp, fun x y z w hq => (by show Ψ _ (M ++ []); rw [List.append_nil]; exact h x y z w hq)⟩
local macro_rules | `(tactic| fail "dl_u") => `(tactic| with_reducible refine Lw.ca_lts ?_ fun x y z w hq => ?_)
def dsp__law_line_fits : DSp := fun as M Ψ _ => ∃ (ns : List Int) (a : Int) (p : Int × Int) (q : Int × Int), as = [.d (lI ns), .d (.int a), .d (.lst [prD p, prD q])] ∧ (Nums ns ∧ 0 < p.2 ∧ 0 < q.2 ∧ Bd 1000 p.1 ∧ Bd 1000 p.2 ∧ Bd 1000 q.1 ∧ Bd 1000 q.2) ∧ Ψ (.d (.bl (lineB ns a (frac p) (frac q)))) M
theorem ca_lf {C : Dl.Ctx} {ρ : Rho} {M : Mm} {Ψ : AV → Mm → Prop} {ns : List Int} {a : Int} {p : Int × Int} {q : Int × Int} (hp : Nums ns ∧ 0 < p.2 ∧ 0 < q.2 ∧ Bd 1000 p.1 ∧ Bd 1000 p.2 ∧ Bd 1000 q.1 ∧ Bd 1000 q.2) (h : Ψ (.d (.bl (lineB ns a (frac p) (frac q)))) M) : call0 C ρ dsp__law_line_fits [.d (lI ns), .d (.int a), .d (.lst [prD p, prD q])] M Ψ := ⟨ns, a, p, q, rfl, hp, (by show Ψ _ (M ++ []); rw [List.append_nil]; exact h)⟩
local macro_rules | `(tactic| fail "dl_u") => `(tactic| with_reducible refine Lw.ca_lf ?_ ?_)
def dsp__law_spread_fits : DSp := fun as M Ψ _ => ∃ (ns : List Int) (sp : List Rat) (o : Int) (u : Int) (a : Int) (x : Int) (y : Int), as = [.d (spD sp), .d (lI ns), .d (prD (o, u)), .d (.int a), .d (prD (x, y))] ∧ (Nums ns ∧ Mean ns o u ∧ On2 ns (Rat.divInt o u) sp ∧ 0 < y ∧ Bd 200 x ∧ Bd 200 y ∧ Rat.divInt x y = tl ns sp a) ∧ Ψ (.d (.bl true)) M
theorem ca_sfi {C : Dl.Ctx} {ρ : Rho} {M : Mm} {Ψ : AV → Mm → Prop} {ns : List Int} {sp : List Rat} {o : Int} {u : Int} {a : Int} {x : Int} {y : Int} (hp : Nums ns ∧ Mean ns o u ∧ On2 ns (Rat.divInt o u) sp ∧ 0 < y ∧ Bd 200 x ∧ Bd 200 y ∧ Rat.divInt x y = tl ns sp a) (h : Ψ (.d (.bl true)) M) : call0 C ρ dsp__law_spread_fits [.d (spD sp), .d (lI ns), .d (prD (o, u)), .d (.int a), .d (prD (x, y))] M Ψ := ⟨ns, sp, o, u, a, x, y, rfl, hp, (by show Ψ _ (M ++ []); rw [List.append_nil]; exact h)⟩
local macro_rules | `(tactic| fail "dl_u") => `(tactic| with_reducible refine Lw.ca_sfi ?_ ?_)
def dsp__law_told_line : DSp := fun as M Ψ _ => ∃ (ns : List Int) (a : Int) (o : Int) (u : Int) (x : Int) (y : Int), as = [.d (lI ns), .d (.int a), .d (prD (o, u)), .d (prD (x, y))] ∧ (Nums ns ∧ Mean ns o u ∧ GI ns o u a (fun _ _ => True) x y) ∧ ∀ (c : Rat) (s : Rat), (lineB ns a c s = true ∧ Sz 140 c ∧ Sz 140 s) → Ψ (.d (.lst [prD (c.num, (c.den : Nat)), prD (s.num, (s.den : Nat))])) M
theorem ca_tol {C : Dl.Ctx} {ρ : Rho} {M : Mm} {Ψ : AV → Mm → Prop} {ns : List Int} {a : Int} {o : Int} {u : Int} {x : Int} {y : Int} (hp : Nums ns ∧ Mean ns o u ∧ GI ns o u a (fun _ _ => True) x y) (h : ∀ (c : Rat) (s : Rat), (lineB ns a c s = true ∧ Sz 140 c ∧ Sz 140 s) → Ψ (.d (.lst [prD (c.num, (c.den : Nat)), prD (s.num, (s.den : Nat))])) M) : call0 C ρ dsp__law_told_line [.d (lI ns), .d (.int a), .d (prD (o, u)), .d (prD (x, y))] M Ψ := ⟨ns, a, o, u, x, y, rfl, hp, fun c s hq => (by show Ψ _ (M ++ []); rw [List.append_nil]; exact h c s hq)⟩
local macro_rules | `(tactic| fail "dl_u") => `(tactic| with_reducible refine Lw.ca_tol ?_ fun c s hq => ?_)
def dsp__law_lines_judged : DSp := fun as M Ψ _ => ∃ (ns : List Int) (t : Int) (v : Rat) (s : Rat) (a b c : Int), as = [.m 0, .d (lI ns), .d (.int t), .d (.lst [prD (v.num, (v.den : Nat)), prD (s.num, (s.den : Nat))])] ∧ M = [stm a b c] ∧ (Nums ns ∧ Sz 140 v ∧ Sz 140 s) ∧ ∀  (a' b' c' : Int), Ψ (.d (.bl true)) [stm a' b' c']
theorem ca_ljd {C : Dl.Ctx} {ρ : Rho} {M : Mm} {Ψ : AV → Mm → Prop} {ns : List Int} {t : Int} {v : Rat} {s : Rat} {a b c : Int} {R : Mm} (hM : M = stm a b c :: R) (hp : Nums ns ∧ Sz 140 v ∧ Sz 140 s) (h : ∀  (a' b' c' : Int), Ψ (.d (.bl true)) (stm a' b' c' :: R)) : only1 0 [.m 0, .d (lI ns), .d (.int t), .d (.lst [prD (v.num, (v.den : Nat)), prD (s.num, (s.den : Nat))])] = true ∧ call1 C ρ 0 dsp__law_lines_judged [.m 0, .d (lI ns), .d (.int t), .d (.lst [prD (v.num, (v.den : Nat)), prD (s.num, (s.den : Nat))])] M Ψ := by
  subst hM; exact ⟨rfl, _, rfl, ns, t, v, s, a, b, c, rfl, rfl, hp, fun a' b' c' => ⟨_, [], rfl, by show Ψ _ (_ :: R ++ []); rw [List.append_nil]; exact h a' b' c'⟩⟩
local macro_rules | `(tactic| fail "dl_u") => `(tactic| with_reducible refine Lw.ca_ljd (by first | fail "nm" | exact rfl) ?_ fun a b c => ?_)
def dsp__law_fits : DSp := fun as M Ψ _ => ∃ (ns : List Int) (o : Int) (u : Int) (t : Int) (a b c : Int), as = [.m 0, .d (lI ns), .d (prD (o, u)), .d (.int t)] ∧ M = [stm a b c] ∧ (Nums ns ∧ Mean ns o u) ∧ ∀  (a' b' c' : Int), Ψ (.d (.bl true)) [stm a' b' c']
theorem ca_lfi {C : Dl.Ctx} {ρ : Rho} {M : Mm} {Ψ : AV → Mm → Prop} {ns : List Int} {o : Int} {u : Int} {t : Int} {a b c : Int} {R : Mm} (hM : M = stm a b c :: R) (hp : Nums ns ∧ Mean ns o u) (h : ∀  (a' b' c' : Int), Ψ (.d (.bl true)) (stm a' b' c' :: R)) : only1 0 [.m 0, .d (lI ns), .d (prD (o, u)), .d (.int t)] = true ∧ call1 C ρ 0 dsp__law_fits [.m 0, .d (lI ns), .d (prD (o, u)), .d (.int t)] M Ψ := by
  subst hM; exact ⟨rfl, _, rfl, ns, o, u, t, a, b, c, rfl, rfl, hp, fun a' b' c' => ⟨_, [], rfl, by show Ψ _ (_ :: R ++ []); rw [List.append_nil]; exact h a' b' c'⟩⟩
local macro_rules | `(tactic| fail "dl_u") => `(tactic| with_reducible refine Lw.ca_lfi (by first | fail "nm" | exact rfl) ?_ fun a b c => ?_)
def dsp__law_holds : DSp := fun as M Ψ _ => ∃ cs : List Int, as = [.d (lI cs)] ∧ cs.length ≤ 63 ∧ Ψ (.d (.bl true)) M
theorem ca_ho {C : Dl.Ctx} {ρ : Rho} {M : Mm} {Ψ : AV → Mm → Prop} {cs : List Int} (hp : cs.length ≤ 63) (h : Ψ (.d (.bl true)) M) : call0 C ρ dsp__law_holds [.d (lI cs)] M Ψ := ⟨cs, rfl, hp, nil_app h⟩
local macro_rules | `(tactic| fail "dl_u") => `(tactic| with_reducible refine Lw.ca_ho (by assumption) ?_)
def dsp_law : DSp := fun as M Ψ _ => ∃ cs : List Int, as = [.d (lI cs)] ∧ cs.length ≤ 63 ∧ Ψ (.d (.bl true)) M
theorem gi_same {ns : List Int} {o u t x y z w : Int} {g : Rat} (hn : Nums ns) (hm : Mean ns o u) (hq : GI ns o u t (fun _ _ => True) x y ∧ LI ns o u t (fun _ _ => True) z w) (hg : IsG ns (Rat.divInt o u) t g) : 0 < y ∧ Bd 8990 x ∧ Bd 8990 y ∧ g = Rat.divInt x y :=
  ⟨hq.1.b0, hq.1.sa.mono (by decide), hq.1.sb.mono (by decide), (hq.1.fin hn hm.u1 hg).symm⟩
theorem li_same {ns : List Int} {o u t x y z w : Int} {g : Rat} (hn : Nums ns) (hm : Mean ns o u) (hq : GI ns o u t (fun _ _ => True) x y ∧ LI ns o u t (fun _ _ => True) z w) (hg : IsL ns (Rat.divInt o u) t g) : 0 < w ∧ Bd 8990 z ∧ Bd 8990 w ∧ g = Rat.divInt z w :=
  ⟨hq.2.b0, hq.2.sa.mono (by decide), hq.2.sb.mono (by decide), (hq.2.fin hn hm.u1 hg).symm⟩
theorem gi_fits {ns : List Int} {o u t x y z w : Int} {sp : List Rat} (hn : Nums ns) (hm : Mean ns o u) (hq : GI ns o u t (fun _ _ => True) x y ∧ LI ns o u t (fun _ _ => True) z w) (hg : On2 ns (Rat.divInt o u) sp ∧ IsG ns (Rat.divInt o u) t (tl ns sp t)) :
    Nums ns ∧ Mean ns o u ∧ On2 ns (Rat.divInt o u) sp ∧ 0 < y ∧ Bd 200 x ∧ Bd 200 y ∧ Rat.divInt x y = tl ns sp t := ⟨hn, hm, hg.1, hq.1.b0, hq.1.sa, hq.1.sb, hq.1.fin hn hm.u1 hg.2⟩
theorem li_fits {ns : List Int} {o u t x y z w : Int} {sp : List Rat} (hn : Nums ns) (hm : Mean ns o u) (hq : GI ns o u t (fun _ _ => True) x y ∧ LI ns o u t (fun _ _ => True) z w) (hg : On2 ns (Rat.divInt o u) sp ∧ IsL ns (Rat.divInt o u) t (tl ns sp t)) :
    Nums ns ∧ Mean ns o u ∧ On2 ns (Rat.divInt o u) sp ∧ 0 < w ∧ Bd 200 z ∧ Bd 200 w ∧ Rat.divInt z w = tl ns sp t := ⟨hn, hm, hg.1, hq.2.b0, hq.2.sa, hq.2.sb, hq.2.fin hn hm.u1 hg.2⟩
theorem gi_told {ns : List Int} {o u t x y z w : Int} (hn : Nums ns) (hm : Mean ns o u) (hq : GI ns o u t (fun _ _ => True) x y ∧ LI ns o u t (fun _ _ => True) z w) : Nums ns ∧ Mean ns o u ∧ GI ns o u t (fun _ _ => True) x y := ⟨hn, hm, hq.1⟩
theorem told_jud {ns : List Int} {t : Int} {c s : Rat} (hn : Nums ns) (hq : lineB ns t c s = true ∧ Sz 140 c ∧ Sz 140 s) : Nums ns ∧ Sz 140 c ∧ Sz 140 s := ⟨hn, hq.2⟩
theorem dOk_ints (ns : List Int) : dOk 60 (lI ns) = true := by
  show dOks 59 (ns.map .int) = true
  induction ns with
  | nil => rfl
  | cons x xs ih => simp [dOks, dOk, ih]
theorem sq_eq {o u x y : Int} (hu : 0 < u) : (Rat.divInt o u - Rat.divInt x 1) * (Rat.divInt y 1 - Rat.divInt o u) = Rat.divInt ((y * u - o) * (o - x * u)) (u * u) := by
  have r2 : (0 : Rat) < u := cast_lt hu
  have r4 : (u : Rat) ≠ 0 := by grind
  rw [di_one, di_one, Rat.divInt_eq_div, Rat.divInt_eq_div]
  simp only [Rat.intCast_mul, Rat.intCast_sub]
  grind
theorem lf_key {t o1 u1 o2 u2 x : Int} (h1 : 0 < u1) (h2 : 0 < u2) : below t (Rat.divInt o1 u1) (Rat.divInt o2 u2) x = true ↔ (o1 * u2 + o2 * x * u1 < 0 ∨ (t ≤ x ∧ o1 * u2 + o2 * x * u1 < u1 * u2)) := by
  have e : Rat.divInt o1 u1 + Rat.divInt o2 u2 * Rat.divInt x 1 = Rat.divInt (o1 * u2 + o2 * x * u1) (u1 * u2) := by
    rw [Rat.divInt_mul_divInt, Int.mul_one, Rat.divInt_add_divInt _ _ (by omega) (by omega)]
  have h3 := Int.mul_pos h1 h2
  unfold below
  rw [decide_eq_true_eq, e]
  rcases stp_cases t x with ⟨q, e2⟩ | ⟨q, e2⟩
  · rw [e2, lt_di h3 (by decide), Int.mul_one, Int.one_mul]
    constructor
    · intro z; exact .inr ⟨q, z⟩
    · rintro (z | z)
      · omega
      · exact z.2
  · rw [e2, lt_di h3 (by decide), Int.mul_one, Int.zero_mul]
    constructor
    · intro z; exact .inl z
    · rintro (z | z)
      · exact z
      · exact absurd z.1 q
theorem frac_q (q : Rat) : frac (q.num, (q.den : Nat)) = q := Rat.num_divInt_den q
theorem Mean.bu {ns : List Int} {o u : Int} (h : Mean ns o u) : Bd 6 u := by
  have := h.u1
  have := h.u2
  unfold Bd
  omega
theorem GI.step {ns : List Int} {o u t a b x y : Int} {i j : Nat} {P : Nat → Nat → Prop} (h : GI ns o u t P a b) (hl : Le2 ns o u i j x y) (s1 : Bd 200 (ovr o u t x y)) (s2 : Bd 200 (ful u x y)) (P' : Nat → Nat → Prop) (hP : ∀ c d, P' c d → P c d ∨ (c = i ∧ d = j)) :
    (a * ful u x y < ovr o u t x y * b → GI ns o u t P' (ovr o u t x y) (ful u x y)) ∧ (¬a * ful u x y < ovr o u t x y * b → GI ns o u t P' a b) := by
  have hc := lt_di (a := a) (c := ovr o u t x y) h.b0 (ful_pos (u := u) (x := x) (y := y))
  constructor
  · intro q
    have q := hc.mpr q
    refine ⟨ful_pos, s1, s2, .inr ⟨i, j, x, y, hl, rfl⟩, fun c d v w hk hp => ?_⟩
    rcases hP c d hp with e | ⟨rfl, rfl⟩
    · exact Rat.le_trans (h.all c d v w hk e) (Rat.le_of_lt q)
    · have e1 := hl.ax.symm.trans hk.ax
      have e2 := hl.bx.symm.trans hk.bx
      cases e1; cases e2
      exact Rat.le_refl
  · intro q
    have q := fun z => q (hc.mp z)
    refine ⟨h.b0, h.sa, h.sb, h.or, fun c d v w hk hp => ?_⟩
    rcases hP c d hp with e | ⟨rfl, rfl⟩
    · exact h.all c d v w hk e
    · have e1 := hl.ax.symm.trans hk.ax
      have e2 := hl.bx.symm.trans hk.bx
      cases e1; cases e2
      exact Rat.not_lt.mp q
theorem LI.step {ns : List Int} {o u t a b x y : Int} {i j : Nat} {P : Nat → Nat → Prop} (h : LI ns o u t P a b) (hl : Le2 ns o u i j x y) (s1 : Bd 200 (ovr o u t x y)) (s2 : Bd 200 (ful u x y)) (P' : Nat → Nat → Prop) (hP : ∀ c d, P' c d → P c d ∨ (c = i ∧ d = j)) :
    (ovr o u t x y * b < a * ful u x y → LI ns o u t P' (ovr o u t x y) (ful u x y)) ∧ (¬ovr o u t x y * b < a * ful u x y → LI ns o u t P' a b) := by
  have hc := lt_di (a := ovr o u t x y) (c := a) (ful_pos (u := u) (x := x) (y := y)) h.b0
  constructor
  · intro q
    have q := hc.mpr q
    refine ⟨ful_pos, s1, s2, .inr ⟨i, j, x, y, hl, rfl⟩, fun c d v w hk hp => ?_⟩
    rcases hP c d hp with e | ⟨rfl, rfl⟩
    · exact Rat.le_trans (Rat.le_of_lt q) (h.all c d v w hk e)
    · have e1 := hl.ax.symm.trans hk.ax
      have e2 := hl.bx.symm.trans hk.bx
      cases e1; cases e2
      exact Rat.le_refl
  · intro q
    have q := fun z => q (hc.mp z)
    refine ⟨h.b0, h.sa, h.sb, h.or, fun c d v w hk hp => ?_⟩
    rcases hP c d hp with e | ⟨rfl, rfl⟩
    · exact h.all c d v w hk e
    · have e1 := hl.ax.symm.trans hk.ax
      have e2 := hl.bx.symm.trans hk.bx
      cases e1; cases e2
      exact Rat.not_lt.mp q
theorem GI.skip {ns : List Int} {o u t a b x y : Int} {i j : Nat} {P : Nat → Nat → Prop} (h : GI ns o u t P a b) (hx : ns[i]? = some x) (hy : ns[j]? = some y) (hn : ¬(x * u ≤ o ∧ o ≤ y * u)) (P' : Nat → Nat → Prop) (hP : ∀ c d, c ≤ d → P' c d → P c d ∨ (c = i ∧ d = j)) : GI ns o u t P' a b := by
  refine ⟨h.b0, h.sa, h.sb, h.or, fun c d v w hk hp => ?_⟩
  rcases hP c d hk.le hp with e | ⟨rfl, rfl⟩
  · exact h.all c d v w hk e
  · have e1 := hx.symm.trans hk.ax
    have e2 := hy.symm.trans hk.bx
    cases e1; cases e2
    exact absurd ⟨hk.lo, hk.hi⟩ hn
theorem LI.skip {ns : List Int} {o u t a b x y : Int} {i j : Nat} {P : Nat → Nat → Prop} (h : LI ns o u t P a b) (hx : ns[i]? = some x) (hy : ns[j]? = some y) (hn : ¬(x * u ≤ o ∧ o ≤ y * u)) (P' : Nat → Nat → Prop) (hP : ∀ c d, c ≤ d → P' c d → P c d ∨ (c = i ∧ d = j)) : LI ns o u t P' a b := by
  refine ⟨h.b0, h.sa, h.sb, h.or, fun c d v w hk hp => ?_⟩
  rcases hP c d hk.le hp with e | ⟨rfl, rfl⟩
  · exact h.all c d v w hk e
  · have e1 := hx.symm.trans hk.ax
    have e2 := hy.symm.trans hk.bx
    cases e1; cases e2
    exact absurd ⟨hk.lo, hk.hi⟩ hn
theorem GI.mono {ns : List Int} {o u t a b : Int} {P : Nat → Nat → Prop} (h : GI ns o u t P a b) (P' : Nat → Nat → Prop) (hP : ∀ c d, c ≤ d → d < ns.length → P' c d → P c d) : GI ns o u t P' a b := ⟨h.b0, h.sa, h.sb, h.or, fun c d v w hk hp => h.all c d v w hk (hP c d hk.le (lt_at hk.bx) hp)⟩
theorem LI.mono {ns : List Int} {o u t a b : Int} {P : Nat → Nat → Prop} (h : LI ns o u t P a b) (P' : Nat → Nat → Prop) (hP : ∀ c d, c ≤ d → d < ns.length → P' c d → P c d) : LI ns o u t P' a b := ⟨h.b0, h.sa, h.sb, h.or, fun c d v w hk hp => h.all c d v w hk (hP c d hk.le (lt_at hk.bx) hp)⟩
set_option maxHeartbeats 4000000 in
theorem fk__law_tails {P : Program} {w : World} {K : PySem.W.Frag} {mg : Str → Option Value} {base : Heap} {cShare : Addr} (T : Txt K mg cShare) : Fk P w K mg base (wd K cShare) "_law_tails" ["numbers", "mean", "at"] 0 dsp__law_tails 1 := by
  obtain ⟨f, fd, F, hm⟩ := T.d__law_tails.ex
  refine ⟨f, fd, fn_D2 F sc__law_tails vi__law_tails gl__law_tails rfl (fun as M Ψ E h => ?_) (fun X as M Ψ E ok own hX hM h => ?_), hm, F.kp, F.binds fun _ _ _ _ _ _ us hl => match us, hl with | [_, _, _], _ => rfl⟩
  · obtain ⟨ns, o, u, a, rfl, hp, h⟩ := h <;> rfl
  have l0 : Lv X "numbers" 0 := ok.lv 0 rfl (by decide) rfl rfl
  have t0 : Ls X "numbers" 0 := ok.ls 0 rfl (by decide)
  have l1 : Lv X "mean" 1 := ok.lv 1 rfl (by decide) rfl rfl
  have t1 : Ls X "mean" 1 := ok.ls 1 rfl (by decide)
  have l2 : Lv X "at" 2 := ok.lv 2 rfl (by decide) rfl rfl
  have t2 : Ls X "at" 2 := ok.ls 2 rfl (by decide)
  have l3 : Lv X "greatest" 3 := ok.lv 3 rfl (by decide) rfl rfl
  have t3 : Ls X "greatest" 3 := ok.ls 3 rfl (by decide)
  have l4 : Lv X "least" 4 := ok.lv 4 rfl (by decide) rfl rfl
  have t4 : Ls X "least" 4 := ok.ls 4 rfl (by decide)
  have l5 : Lv X "place" 5 := ok.lv 5 rfl (by decide) rfl rfl
  have t5 : Ls X "place" 5 := ok.ls 5 rfl (by decide)
  have l6 : Lv X "other" 6 := ok.lv 6 rfl (by decide) rfl rfl
  have t6 : Ls X "other" 6 := ok.ls 6 rfl (by decide)
  have l7 : Lv X "low" 7 := ok.lv 7 rfl (by decide) rfl rfl
  have t7 : Ls X "low" 7 := ok.ls 7 rfl (by decide)
  have l8 : Lv X "high" 8 := ok.lv 8 rfl (by decide) rfl rfl
  have t8 : Ls X "high" 8 := ok.ls 8 rfl (by decide)
  have l9 : Lv X "full" 9 := ok.lv 9 rfl (by decide) rfl rfl
  have t9 : Ls X "full" 9 := ok.ls 9 rfl (by decide)
  have l10 : Lv X "raising" 10 := ok.lv 10 rfl (by decide) rfl rfl
  have t10 : Ls X "raising" 10 := ok.ls 10 rfl (by decide)
  have l11 : Lv X "over" 11 := ok.lv 11 rfl (by decide) rfl rfl
  have t11 : Ls X "over" 11 := ok.ls 11 rfl (by decide)
  have z3 : FzV 3 := ⟨⟩
  have z4 : FzV 4 := ⟨⟩
  have b0 : Bt X "range" "range" := ok.bt 0 rfl T.b_range rfl (by decide) rfl
  have e0 : (g__law_tails)[0]? = some ("range" : Str) := rfl
  have m0 : mg "range" = none := T.b_range
  have b1 : Bk X "len" "len" := ok.bk 1 rfl T.b_len rfl (by decide) rfl
  have b2 : Bk X "max" "max" := ok.bk 2 rfl T.b_max rfl (by decide) rfl
  have b3 : Bt X "int" "int" := ok.bt 3 rfl T.b_int rfl (by decide) rfl
  have kShare := T.cls_Share
  have sShare : IsF X.K (wd K cShare) 0 := by rw [show X.K = K from ok.kE]; exact T.isf_Share
  have jShare : PySem.W.kitOne X.K (.ref cShare) (.ref cShare) = some true := by rw [show X.K = K from ok.kE]; exact T.kc_Share
  have qShare0 : ((wd K cShare).cf 0)[0]? = some ("over" : Str) := rfl
  have qShare1 : ((wd K cShare).cf 0)[1]? = some ("under" : Str) := rfl
  have calm := ok.calm
  have wk := ok.wk
  obtain ⟨ns, o, u, a, rfl, hp, h⟩ := h
  obtain rfl : M = [] := List.eq_nil_of_length_eq_zero hM
  refine ws_rho (by fail "rho") ?_
  obtain ⟨hn, hm⟩ := hp
  have h8 := hn.hi
  have hl : (ns.map D.int).length = ns.length := by simp
  have bo := bd_o hm hn
  have bu := hm.bu
  fail "dls"
  refine w1_for ok own ?_
  fail "dls"
  refine ⟨fun i ρ M => ∃ (x y z w : Int) (y5 y6 y7 y8 y9 y10 y11 : Option AV), ρ = [_, some (.d (prD (o, u))), some (.d (.int a)), some (.d (prD (x, y))), some (.d (prD (z, w))), y5, y6, y7, y8, y9, y10, y11] ∧ M = [] ∧ GI ns o u a (fun c _ => c < i) x y ∧ LI ns o u a (fun c _ => c < i) z w,
    ⟨_, _, _, _, _, _, _, _, _, _, _, rfl, rfl, ⟨by decide, by unfold Bd; decide, by unfold Bd; decide, .inl ⟨rfl, rfl⟩, fun _ _ _ _ _ z => absurd z (by omega)⟩, ⟨by decide, by unfold Bd; decide, by unfold Bd; decide, .inl ⟨rfl, rfl⟩, fun _ _ _ _ _ z => absurd z (by omega)⟩⟩, ?_, ?_⟩
  · rintro i d ρ' M' hi hd ⟨x, y, z, w, y5, y6, y7, y8, y9, y10, y11, rfl, rfl, hg, hk⟩
    obtain ⟨hi2, rfl⟩ := rgL_mem hd
    rw [Int.zero_add]
    fail "dls"
    refine w1_for (ok.at _) own ?_
    fail "dls"
    refine ⟨fun k ρ M => ∃ (x y z w : Int) (y6 y7 y8 y9 y10 y11 : Option AV), ρ = [_, some (.d (prD (o, u))), some (.d (.int a)), some (.d (prD (x, y))), some (.d (prD (z, w))), some (.d (.int (i : Nat))), y6, y7, y8, y9, y10, y11] ∧ M = [] ∧ GI ns o u a (fun c d => c < i ∨ c = i ∧ d < i + k) x y ∧ LI ns o u a (fun c d => c < i ∨ c = i ∧ d < i + k) z w,
      ⟨_, _, _, _, _, _, _, _, _, _, rfl, rfl, hg.mono _ fun c d _ _ q => by omega, hk.mono _ fun c d _ _ q => by omega⟩, ?_, ?_⟩
    · rintro k d ρ' M' hk2 hd ⟨x, y, z, w, y6, y7, y8, y9, y10, y11, rfl, rfl, hg, hk⟩
      obtain ⟨hk3, rfl⟩ := rgL_mem hd
      rw [show ((i : Int) + (k : Int)) = ((i + k : Nat) : Int) by omega]
      obtain ⟨p, hp⟩ := at_lt (xs := ns) (i := i) (by omega)
      obtain ⟨q, hq⟩ := at_lt (xs := ns) (i := i + k) (by omega)
      obtain ⟨bp, _, bpu⟩ := bd_num hm hn hp
      obtain ⟨bq, _, bqu⟩ := bd_num hm hn hq
      fail "dls"
      refine wi_seq (by fail "as") rfl (atI_n (d := .int p) (by rw [List.getElem?_map, hp]; rfl)) ?_
      fail "dls"
      have bd := bd_sub67 bp bq
      have br : Bd 76 (o - p * u) := (bo.sub bpu).mono (by decide)
      have bdu : Bd 74 ((q - p) * u) := (bd.mul bu).mono (by decide)
      have bf : Bd 76 (if (q - p) * u > 1 then (q - p) * u else 1) := bd_ful (bdu.mono (by decide))
      have bfr : Bd 77 ((if (q - p) * u > 1 then (q - p) * u else 1) - (o - p * u)) := (bf.sub br).mono (by decide)
      have bs1 : Bd 1 (if decide (a ≤ q) = true then 1 else 0) := bd_stp
      have bs2 : Bd 1 (if decide (a ≤ p) = true then 1 else 0) := bd_stp
      have bv : Bd 160 ((o - p * u) * (if decide (a ≤ q) = true then 1 else 0) + ((if (q - p) * u > 1 then (q - p) * u else 1) - (o - p * u)) * (if decide (a ≤ p) = true then 1 else 0)) := ((br.mul bs1).add (bfr.mul bs2)).mono (by decide)
      have G1 := fun hle => hg.step (i := i) (j := i + k) (x := p) (y := q) hle (show Bd 200 (ovr o u a p q) from bv.mono (by decide)) (show Bd 200 (ful u p q) from bf.mono (by decide)) (fun c d => c < i ∨ c = i ∧ d < i + (k + 1)) (fun c d z => by omega)
      have L1 := fun hle => hk.step (i := i) (j := i + k) (x := p) (y := q) hle (show Bd 200 (ovr o u a p q) from bv.mono (by decide)) (show Bd 200 (ful u p q) from bf.mono (by decide)) (fun c d => c < i ∨ c = i ∧ d < i + (k + 1)) (fun c d z => by omega)
      have G0 := fun hno => hg.skip hp hq hno (fun c d => c < i ∨ c = i ∧ d < i + (k + 1)) (fun c d _ z => by omega)
      have L0 := fun hno => hk.skip hp hq hno (fun c d => c < i ∨ c = i ∧ d < i + (k + 1)) (fun c d _ z => by omega)
      have k1 : (x * (if (q - p) * u > 1 then (q - p) * u else 1) < ((o - p * u) * (if a ≤ q then 1 else 0) + ((if (q - p) * u > 1 then (q - p) * u else 1) - (o - p * u)) * (if a ≤ p then 1 else 0)) * y) = (x * ful u p q < ovr o u a p q * y) := by
        unfold ovr ful stp; simp only [decide_eq_true_eq]
      have k2 : (((o - p * u) * (if a ≤ q then 1 else 0) + ((if (q - p) * u > 1 then (q - p) * u else 1) - (o - p * u)) * (if a ≤ p then 1 else 0)) * w < z * (if (q - p) * u > 1 then (q - p) * u else 1)) = (ovr o u a p q * w < z * ful u p q) := by
        unfold ovr ful stp; simp only [decide_eq_true_eq]
      refine wi_seq (by fail "as") rfl (atI_n (d := .int q) (by rw [List.getElem?_map, hq]; rfl)) ?_
      fail "dls"
      all_goals first
        | exact cmulX bp bu (by decide)
        | exact cmulX bq bu (by decide)
        | exact cmulX bd bu (by decide)
        | exact cmulX br bs1 (by decide)
        | exact cmulX bfr bs2 (by decide)
        | exact cmulX bv hg.sb (by decide)
        | exact cmulX hg.sa bf (by decide)
        | exact cmulX bv hk.sb (by decide)
        | exact cmulX hk.sa bf (by decide)
        | exact ⟨_, _, _, _, _, _, _, _, _, _, rfl, rfl, G0 fun z => absurd z.1 (by assumption), L0 fun z => absurd z.1 (by assumption)⟩
        | exact ⟨_, _, _, _, _, _, _, _, _, _, rfl, rfl, G0 fun z => absurd z.2 (by assumption), L0 fun z => absurd z.2 (by assumption)⟩
        | skip
      all_goals
        have hle : Le2 ns o u i (i + k) p q := ⟨by omega, hp, hq, by assumption, by assumption⟩
        rename_i c1 c2
        rw [k1] at c1
        rw [k2] at c2
        first
          | exact ⟨_, _, _, _, _, _, _, _, _, _, rfl, rfl, (G1 hle).1 c1, (L1 hle).1 c2⟩
          | exact ⟨_, _, _, _, _, _, _, _, _, _, rfl, rfl, (G1 hle).1 c1, (L1 hle).2 c2⟩
          | exact ⟨_, _, _, _, _, _, _, _, _, _, rfl, rfl, (G1 hle).2 c1, (L1 hle).1 c2⟩
          | exact ⟨_, _, _, _, _, _, _, _, _, _, rfl, rfl, (G1 hle).2 c1, (L1 hle).2 c2⟩
    · rintro ρ' M' ⟨x, y, z, w, y6, y7, y8, y9, y10, y11, rfl, rfl, hg, hk⟩
      have hi3 : i < ns.length := by omega
      rw [rgL_len] at hg hk
      exact ⟨_, _, _, _, _, _, _, _, _, _, _, rfl, rfl, hg.mono _ fun c d _ _ q => by omega, hk.mono _ fun c d _ _ q => by omega⟩
  · rintro ρ' M' ⟨x, y, z, w, y5, y6, y7, y8, y9, y10, y11, rfl, rfl, hg, hk⟩
    rw [rgL_len] at hg hk
    fail "dls"
    exact h x y z w ⟨hg.mono _ fun c d _ _ _ => by omega, hk.mono _ fun c d _ _ _ => by omega⟩
set_option maxHeartbeats 4000000 in
theorem fk__law_line_fits {P : Program} {w : World} {K : PySem.W.Frag} {mg : Str → Option Value} {base : Heap} {cShare : Addr} (T : Txt K mg cShare) : Fk P w K mg base (wd K cShare) "_law_line_fits" ["numbers", "at", "line"] 0 dsp__law_line_fits 1 := by
  obtain ⟨f, fd, F, hm⟩ := T.d__law_line_fits.ex
  refine ⟨f, fd, fn_D2 F sc__law_line_fits vi__law_line_fits gl__law_line_fits rfl (fun as M Ψ E h => ?_) (fun X as M Ψ E ok own hX hM h => ?_), hm, F.kp, F.binds fun _ _ _ _ _ _ us hl => match us, hl with | [_, _, _], _ => rfl⟩
  · obtain ⟨ns, a, p, q, rfl, hp, h⟩ := h <;> rfl
  have l0 : Lv X "numbers" 0 := ok.lv 0 rfl (by decide) rfl rfl
  have t0 : Ls X "numbers" 0 := ok.ls 0 rfl (by decide)
  have l1 : Lv X "at" 1 := ok.lv 1 rfl (by decide) rfl rfl
  have t1 : Ls X "at" 1 := ok.ls 1 rfl (by decide)
  have l2 : Lv X "line" 2 := ok.lv 2 rfl (by decide) rfl rfl
  have t2 : Ls X "line" 2 := ok.ls 2 rfl (by decide)
  have l3 : Lv X "number" 3 := ok.lv 3 rfl (by decide) rfl rfl
  have t3 : Ls X "number" 3 := ok.ls 3 rfl (by decide)
  have l4 : Lv X "height" 4 := ok.lv 4 rfl (by decide) rfl rfl
  have t4 : Ls X "height" 4 := ok.ls 4 rfl (by decide)
  have kShare := T.cls_Share
  have sShare : IsF X.K (wd K cShare) 0 := by rw [show X.K = K from ok.kE]; exact T.isf_Share
  have jShare : PySem.W.kitOne X.K (.ref cShare) (.ref cShare) = some true := by rw [show X.K = K from ok.kE]; exact T.kc_Share
  have qShare0 : ((wd K cShare).cf 0)[0]? = some ("over" : Str) := rfl
  have qShare1 : ((wd K cShare).cf 0)[1]? = some ("under" : Str) := rfl
  have calm := ok.calm
  have wk := ok.wk
  obtain ⟨ns, a, p, q, rfl, hp, h⟩ := h
  obtain rfl : M = [] := List.eq_nil_of_length_eq_zero hM
  refine ws_rho (by fail "rho") ?_
  obtain ⟨hn, p2, q2, b1, b2, b3, b4⟩ := hp
  fail "dls"
  refine w1_for ok own ?_
  fail "dls"
  refine ⟨fun i ρ M => ∃ x y, ρ = [_, some (.d (.int a)), some (.d (.lst [prD p, prD q])), x, y] ∧ M = [] ∧ ∀ (j : Nat) (z : Int), j < i → ns[j]? = some z → below a (frac p) (frac q) z = false, ⟨_, _, rfl, rfl, fun j z hj => absurd hj (by omega)⟩, ?_, ?_⟩
  · rintro i d ρ' M' hi hd ⟨x, y, rfl, rfl, hb⟩
    obtain ⟨z, hz, rfl⟩ := map_at hd
    have key := lf_key (t := a) (x := z) (o1 := p.1) (o2 := q.1) p2 q2
    have bz := hn.bd67 (mem_at hz)
    have fin : below a (frac p) (frac q) z = true → lineB ns a (frac p) (frac q) = false := fun e => by
      unfold lineB
      rw [Bool.not_eq_false', List.any_map, List.any_eq_true]
      exact ⟨z, mem_at hz, e⟩
    have nxt : below a (frac p) (frac q) z = false → ∀ (j : Nat) (v : Int), j < i + 1 → ns[j]? = some v → below a (frac p) (frac q) v = false := fun e j v hj hv => by
      by_cases c : j = i
      · subst c; rw [hz] at hv; cases hv; exact e
      · exact hb j v (by omega) hv
    have key' : ¬(p.1 * q.2 + q.1 * z * p.2 < 0 ∨ (a ≤ z ∧ p.1 * q.2 + q.1 * z * p.2 < p.2 * q.2)) → below a (frac p) (frac q) z = false := fun e => by
      have := mt key.mp e
      exact Bool.eq_false_iff.mpr this
    fail "dls"
    all_goals first
      | exact cmulX b1 b4 (by decide)
      | exact cmulX b3 bz (by decide)
      | exact cmulX (bd_mulD b3 bz (Nat.le_refl _)) b2 (by decide)
      | exact cmulX b2 b4 (by decide)
      | (rw [fin (key.mpr (.inl (by assumption)))] at h; exact h)
      | (rw [fin (key.mpr (.inr ⟨by assumption, by assumption⟩))] at h; exact h)
      | exact ⟨_, _, rfl, rfl, nxt (key' fun e => by rcases e with e | e; exact absurd e (by assumption); exact absurd e.1 (by assumption))⟩
      | exact ⟨_, _, rfl, rfl, nxt (key' fun e => by rcases e with e | e; exact absurd e (by assumption); exact absurd e.2 (by assumption))⟩
  · rintro ρ' M' ⟨x, y, rfl, rfl, hb⟩
    rw [List.length_map] at hb
    fail "dls"
    have e : lineB ns a (frac p) (frac q) = true := by
      unfold lineB
      simp only [Bool.not_eq_true', List.any_map, List.any_eq_false, Function.comp, id]
      intro z hz
      obtain ⟨j, hj⟩ := List.mem_iff_getElem?.mp hz
      rw [hb j z (lt_at hj) hj]
      decide
    rw [e] at h
    exact h
def pr (q : Rat) : Int × Int := (q.num, (q.den : Nat))
theorem frac_pr (q : Rat) : frac (pr q) = q := Rat.num_divInt_den q
theorem prD_inj : ∀ x y : Int × Int, prD x = prD y → x = y := by
  rintro ⟨a, b⟩ ⟨c, d⟩ e
  injection e with e
  injection e with e1 e2
  injection e2 with e3 e4
  cases int_inj _ _ e1
  cases int_inj _ _ e3
  rfl
theorem nat_inj : ∀ x y : Nat, D.int (x : Int) = D.int (y : Int) → x = y := by
  intro x y e
  have := int_inj _ _ e
  omega
theorem dOks_pr : ∀ ps : List (Int × Int), dOks 59 (ps.map prD) = true
  | [] => rfl
  | p :: ps => by
    have := dOks_pr ps
    simp [dOks, dOk, this]
theorem filt_sum (p : Nat → Bool) (g : Nat → Rat) : ∀ l : List Nat, (∀ i ∈ l, p i = false → g i = 0) → qsum ((l.filter p).map g) = qsum (l.map g)
  | [], _ => rfl
  | i :: l, h => by
    have ih := filt_sum p g l fun j hj => h j (by simp [hj])
    rw [List.filter_cons]
    cases e : p i with
    | true => simp only [if_true, List.map_cons, qsum, ih]
    | false =>
      simp only [Bool.false_eq_true, if_false, List.map_cons, qsum, ih, h i (by simp) e]
      grind
theorem mn_idx : ∀ (ns : List Int) (sp : List Rat), ns.length = sp.length → mn ns sp = qsum ((List.range sp.length).map fun i => ((ns.getD i 0 : Int) : Rat) * sp.getD i 0)
  | [], [], _ => rfl
  | x :: xs, q :: qs, h => by
    have ih := mn_idx xs qs (by simpa using h)
    rw [List.length_cons, List.range_succ_eq_map, List.map_cons, List.map_map]
    simp only [mn, qsum, ih]
    rfl
theorem tl_idx (t : Int) : ∀ (ns : List Int) (sp : List Rat), ns.length = sp.length → tl ns sp t = qsum ((List.range sp.length).map fun i => if t ≤ ns.getD i 0 then sp.getD i 0 else 0)
  | [], [], _ => rfl
  | x :: xs, q :: qs, h => by
    have ih := tl_idx t xs qs (by simpa using h)
    rw [List.length_cons, List.range_succ_eq_map, List.map_cons, List.map_map]
    simp only [tl, qsum, ih]
    rfl
theorem two_len (p : Nat → Bool) (a b : Nat) (h : ∀ i, p i = true → i = a ∨ i = b) : ∀ n, ((List.range n).filter p).length ≤ (if a < n then 1 else 0) + (if b < n then 1 else 0)
  | 0 => by simp
  | n + 1 => by
    have ih := two_len p a b h n
    rw [List.range_succ, List.filter_append, List.length_append]
    cases e : p n with
    | false =>
      have : (List.filter p [n]).length = 0 := by simp [e]
      rw [this]
      split at ih <;> split at ih <;> split <;> split <;> omega
    | true =>
      have : (List.filter p [n]).length = 1 := by simp [e]
      rw [this]
      rcases h n e with rfl | rfl
      · split at ih <;> split at ih <;> split <;> split <;> omega
      · split at ih <;> split at ih <;> split <;> split <;> omega
def ab (sp : List Rat) : List Nat := (List.range sp.length).filter fun i => decide (0 < (sp.getD i 0).num)
theorem ab_sum {sp : List Rat} (h : ∀ q ∈ sp, 0 ≤ q) (w : Nat → Rat) : qsum ((ab sp).map fun i => w i * sp.getD i 0) = qsum ((List.range sp.length).map fun i => w i * sp.getD i 0) := by
  refine filt_sum _ _ _ fun i hi e => ?_
  have hi := List.mem_range.mp hi
  have e := of_decide_eq_false e
  have e2 : sp.getD i 0 = 0 := by
    have hm : sp.getD i 0 ∈ sp := by
      rw [List.getD_eq_getElem?_getD, List.getElem?_eq_getElem hi]; exact List.getElem_mem _
    have h0 := Rat.num_nonneg.mpr (h _ hm)
    exact Rat.num_eq_zero.mp (by omega)
  rw [e2]; grind
theorem On2.sz {ns : List Int} {m : Rat} {sp : List Rat} (h : On2 ns m sp) (hn : Nums ns) (hm : Sz 80 m) : ∀ q ∈ sp, Sz 218 q := by
  obtain ⟨a, b, x, y, hp, rfl⟩ := h
  have hx := hn.bd67 (mem_at hp.ax)
  have hy := hn.bd67 (mem_at hp.bx)
  have hl := hp.lt2 hn
  intro q hq
  rcases sp2_mem hq with e | e | e
  · rw [e]; exact (sz_pv hm hx hy hl).mono (by decide)
  · rw [e]; exact sz_rv hm hx hy hl
  · rw [e]; exact sz_zero.mono (by decide)
theorem On2.two {ns : List Int} {m : Rat} {sp : List Rat} (h : On2 ns m sp) : (ab sp).length ≤ 2 := by
  obtain ⟨a, b, x, y, hp, rfl⟩ := h
  refine Nat.le_trans (two_len _ a b (fun i hi => ?_) _) (by split <;> split <;> decide)
  have hi := of_decide_eq_true hi
  cases e : (sp2 ns.length a b (pv m x y) (rv m x y))[i]? with
  | none => rw [List.getD_eq_getElem?_getD, e] at hi; exact absurd hi (by decide)
  | some q =>
    rw [List.getD_eq_getElem?_getD, e] at hi
    refine sp2_pos e ?_
    have : 0 < q.num := hi
    rw [Rat.lt_iff]
    simpa using this
theorem ab_at {sp : List Rat} {i : Nat} (h : i ∈ ab sp) : ∃ q, sp[i]? = some q ∧ sp.getD i 0 = q := by
  have := List.mem_range.mp (List.mem_filter.mp h).1
  exact ⟨sp[i], List.getElem?_eq_getElem this, by rw [List.getD_eq_getElem?_getD, List.getElem?_eq_getElem this]; rfl⟩
theorem frac_mul (x : Int) (q : Rat) : frac (x * (pr q).1, (pr q).2) = (x : Rat) * q := by
  show Rat.divInt (x * q.num) (q.den : Nat) = _
  have e := Rat.divInt_mul_divInt x q.num (d₁ := 1) (d₂ := q.den)
  rw [Int.one_mul, Rat.num_divInt_den, di_one] at e
  exact e.symm
def ps2 (ns : List Int) (sp : List Rat) : List (Int × Int) := (ab sp).map fun i => (ns.getD i 0 * (pr (sp.getD i 0)).1, (pr (sp.getD i 0)).2)
def ps3 (ns : List Int) (sp : List Rat) (t : Int) : List (Int × Int) := ((ab sp).filter fun i => decide (t ≤ ns.getD i 0)).map fun i => pr (sp.getD i 0)
theorem ps2_sum {ns : List Int} {sp : List Rat} (h : ∀ q ∈ sp, 0 ≤ q) (hl : ns.length = sp.length) : qsum ((ps2 ns sp).map frac) = mn ns sp := by
  rw [mn_idx ns sp hl, ← ab_sum h fun i => ((ns.getD i 0 : Int) : Rat)]
  unfold ps2
  rw [List.map_map]
  congr 1
  exact List.map_congr_left fun i _ => frac_mul _ _
theorem ps3_sum {ns : List Int} {sp : List Rat} {t : Int} (h : ∀ q ∈ sp, 0 ≤ q) (hl : ns.length = sp.length) : qsum ((ps3 ns sp t).map frac) = tl ns sp t := by
  rw [tl_idx t ns sp hl]
  have e : (fun i => if t ≤ ns.getD i 0 then sp.getD i 0 else 0) = fun i => (if t ≤ ns.getD i 0 then (1 : Rat) else 0) * sp.getD i 0 := by
    funext i; split <;> grind
  rw [e, ← ab_sum h fun i => if t ≤ ns.getD i 0 then (1 : Rat) else 0]
  unfold ps3
  rw [List.map_map]
  rw [← filt_sum (fun i => decide (t ≤ ns.getD i 0)) _ (ab sp) (fun i _ e => by rw [if_neg (of_decide_eq_false e)]; grind)]
  congr 1
  refine List.map_congr_left fun i hi => ?_
  rw [if_pos (of_decide_eq_true (List.mem_filter.mp hi).2)]
  show frac (pr _) = _
  rw [frac_pr]; grind
theorem pr_sum (sp : List Rat) : qsum ((sp.map pr).map frac) = qsum sp := by
  rw [List.map_map]
  congr 1
  have : (frac ∘ pr) = id := funext frac_pr
  rw [this, List.map_id]
theorem lsum_pr {sp : List Rat} (hl : sp.length ≤ 8) (h : ∀ q ∈ sp, Sz 218 q) : (sp.map pr).length ≤ 8 ∧ ∀ p ∈ sp.map pr, 0 < p.2 ∧ Bd 400 p.1 ∧ Bd 400 p.2 := by
  refine ⟨by rw [List.length_map]; exact hl, fun p hp => ?_⟩
  obtain ⟨q, hq, rfl⟩ := List.mem_map.mp hp
  exact ⟨den_pos q, (h q hq).num.mono (by decide), (h q hq).dn.mono (by decide)⟩
theorem ps2_ok {ns : List Int} {sp : List Rat} (hl : (ab sp).length ≤ 8) (hn : Nums ns) (h : ∀ q ∈ sp, Sz 218 q) (hl2 : sp.length ≤ ns.length) : (ps2 ns sp).length ≤ 8 ∧ ∀ p ∈ ps2 ns sp, 0 < p.2 ∧ Bd 400 p.1 ∧ Bd 400 p.2 := by
  refine ⟨by unfold ps2; rw [List.length_map]; exact hl, fun p hp => ?_⟩
  obtain ⟨i, hi, rfl⟩ := List.mem_map.mp hp
  obtain ⟨q, hq, eq⟩ := ab_at hi
  obtain ⟨z, hz⟩ := at_lt (xs := ns) (i := i) (by have := lt_at hq; omega)
  have ez : ns.getD i 0 = z := by rw [List.getD_eq_getElem?_getD, hz]; rfl
  have bz := hn.bd67 (mem_at hz)
  rw [eq, ez]
  exact ⟨den_pos q, bd_mulD bz (h q (mem_at hq)).num (by decide), (h q (mem_at hq)).dn.mono (by decide)⟩
theorem ps3_ok {ns : List Int} {sp : List Rat} {t : Int} (hl : (ab sp).length ≤ 8) (h : ∀ q ∈ sp, Sz 218 q) : (ps3 ns sp t).length ≤ 8 ∧ ∀ p ∈ ps3 ns sp t, 0 < p.2 ∧ Bd 400 p.1 ∧ Bd 400 p.2 := by
  refine ⟨by unfold ps3; rw [List.length_map]; exact Nat.le_trans (List.length_filter_le _ _) hl, fun p hp => ?_⟩
  obtain ⟨i, hi, rfl⟩ := List.mem_map.mp hp
  obtain ⟨q, hq, eq⟩ := ab_at (List.mem_filter.mp hi).1
  rw [eq]
  exact ⟨den_pos q, (h q (mem_at hq)).num.mono (by decide), (h q (mem_at hq)).dn.mono (by decide)⟩
theorem On2.mean {ns : List Int} {m : Rat} {sp : List Rat} (h : On2 ns m sp) (hn : Nums ns) : mn ns sp = m := by
  obtain ⟨a, b, x, y, hp, rfl⟩ := h
  exact hp.mean hn
set_option maxHeartbeats 4000000 in
theorem fk__law_spread_fits {P : Program} {w : World} {K : PySem.W.Frag} {mg : Str → Option Value} {base : Heap} {cShare : Addr} (T : Txt K mg cShare) : Fk P w K mg base (wd K cShare) "_law_spread_fits" ["told", "numbers", "mean", "at", "tail"] 0 dsp__law_spread_fits 5 := by
  obtain ⟨f, fd, F, hm⟩ := T.d__law_spread_fits.ex
  refine ⟨f, fd, fn_D2 F sc__law_spread_fits vi__law_spread_fits gl__law_spread_fits rfl (fun as M Ψ E h => ?_) (fun X as M Ψ E ok own hX hM h => ?_), hm, F.kp, F.binds fun _ _ _ _ _ _ us hl => match us, hl with | [_, _, _, _, _], _ => rfl⟩
  · obtain ⟨ns, sp, o, u, a, x, y, rfl, hp, h⟩ := h <;> rfl
  have l0 : Lv X "told" 0 := ok.lv 0 rfl (by decide) rfl rfl
  have t0 : Ls X "told" 0 := ok.ls 0 rfl (by decide)
  have l1 : Lv X "numbers" 1 := ok.lv 1 rfl (by decide) rfl rfl
  have t1 : Ls X "numbers" 1 := ok.ls 1 rfl (by decide)
  have l2 : Lv X "mean" 2 := ok.lv 2 rfl (by decide) rfl rfl
  have t2 : Ls X "mean" 2 := ok.ls 2 rfl (by decide)
  have l3 : Lv X "at" 3 := ok.lv 3 rfl (by decide) rfl rfl
  have t3 : Ls X "at" 3 := ok.ls 3 rfl (by decide)
  have l4 : Lv X "tail" 4 := ok.lv 4 rfl (by decide) rfl rfl
  have t4 : Ls X "tail" 4 := ok.ls 4 rfl (by decide)
  have l5 : Lv X "parts" 5 := ok.lv 5 rfl (by decide) rfl rfl
  have t5 : Ls X "parts" 5 := ok.ls 5 rfl (by decide)
  have l6 : Lv X "above_none" 6 := ok.lv 6 rfl (by decide) rfl rfl
  have t6 : Ls X "above_none" 6 := ok.ls 6 rfl (by decide)
  have z5 : FzV 5 := ⟨⟩
  have z6 : FzV 6 := ⟨⟩
  have c7 : (N__law_spread_fits)[7]? = some ("part" : Str) := rfl
  have c8 : (N__law_spread_fits)[8]? = some ("place" : Str) := rfl
  have fx0 := ok.fx (x := "_law_pair") (fk__law_pair T) (by decide) rfl
  have b0 : Bk X "isinstance" "isinstance" := ok.bk 0 rfl T.b_isinstance rfl (by decide) rfl
  have b1 : Bt X "tuple" "tuple" := ok.bt 1 rfl T.b_tuple rfl (by decide) rfl
  have b2 : Bk X "len" "len" := ok.bk 2 rfl T.b_len rfl (by decide) rfl
  have b3 : Bt X "range" "range" := ok.bt 3 rfl T.b_range rfl (by decide) rfl
  have e3 : (g__law_spread_fits)[3]? = some ("range" : Str) := rfl
  have m3 : mg "range" = none := T.b_range
  have b4 : Bk X "min" "min" := ok.bk 4 rfl T.b_min rfl (by decide) rfl
  have f5 := ok.fc 5 (x := "_law_like") rfl (fk__law_like T) (by decide) rfl
  have f6 := ok.fc 6 (x := "_law_sum") rfl (fk__law_sum T) (by decide) rfl
  have kShare := T.cls_Share
  have sShare : IsF X.K (wd K cShare) 0 := by rw [show X.K = K from ok.kE]; exact T.isf_Share
  have jShare : PySem.W.kitOne X.K (.ref cShare) (.ref cShare) = some true := by rw [show X.K = K from ok.kE]; exact T.kc_Share
  have qShare0 : ((wd K cShare).cf 0)[0]? = some ("over" : Str) := rfl
  have qShare1 : ((wd K cShare).cf 0)[1]? = some ("under" : Str) := rfl
  have calm := ok.calm
  have wk := ok.wk
  obtain ⟨ns, sp, o, u, a, x, y, rfl, hp, h⟩ := h
  obtain rfl : M = [] := List.eq_nil_of_length_eq_zero hM
  refine ws_rho (by fail "rho") ?_
  obtain ⟨hn, hm, ho, y0, bx, by', hv⟩ := hp
  have hs := ho.spr hn (hm.mid hn).sz
  have hs2 := ho.sz hn (hm.mid hn).sz
  have hl : (ns.map D.int).length = ns.length := by simp
  have hl2 : (sp.map shQ).length = ns.length := by simp [hs.len]
  have h8 := hn.hi
  have n2 := hn.lo
  have sl := hs.len
  fail "dls"
  refine w1_szE (by fail "as") hX (by intros; rfl) (we_lcO [("part", 7)] [7] (by fail "ok") hX (by decide +kernel) ?_)
  fail "dls"
  refine ⟨by omega, gOf shQ (fun q => some (prD (pr q))), ?_, ?_⟩
  · intro j d hd
    obtain ⟨q, hq, rfl⟩ := map_at hd
    rw [gOf_at shQ_inj]
    fail "dls"
    rfl
  rw [gOf_map shQ_inj, fm_some, show (fun q => prD (pr q)) = prD ∘ pr from rfl, ← List.map_map]
  have hl3 : ((sp.map pr).map prD).length = ns.length := by simp [sl]
  have pat : ∀ {i : Nat} {q : Rat}, sp[i]? = some q → ((sp.map pr).map prD)[i]? = some (prD (pr q)) := fun h => by simp [h]
  fail "dls"
  refine wo_inN (by fail "ok") (by rfl) (dOks_pr _) (fun d hd => by obtain ⟨p, _, rfl⟩ := List.mem_map.mp hd; exact D.noConfusion) ?_
  fail "dls"
  refine w1_sLc [("place", 8)] [8] (by fail "as") (by fail "ok") hX (by decide +kernel) rfl (by intros; rfl) ?_
  fail "dls"
  have hN : ((((sp.map pr).map prD).length : Nat) : Int).toNat = sp.length := by simp
  rw [hN, rgL0]
  refine ⟨by rw [List.length_map, List.length_range]; omega, gOf (fun i : Nat => D.int (i : Int)) (fun i => if decide (0 < (sp.getD i 0).num) = true then some (.int (i : Int)) else none), ?_, ?_⟩
  · intro j d hd
    obtain ⟨i, hi, rfl⟩ := map_at hd
    rw [gOf_at nat_inj]
    have hi2 : i < sp.length := List.mem_range.mp (mem_at hi)
    obtain ⟨q, hq⟩ := at_lt hi2
    have eq : sp.getD i 0 = q := by rw [List.getD_eq_getElem?_getD, hq]; rfl
    rw [eq]
    fail "dls"
    refine wi_seq (by fail "as") rfl (atI_n (pat hq)) ?_
    fail "dls"
    · rename_i hc _ _
      exact if_pos (decide_eq_true hc)
    · rename_i hc
      exact if_neg (fun e => hc (of_decide_eq_true e))
  rw [gOf_map nat_inj, fm_filter, show ((List.range sp.length).filter fun i => decide (0 < (sp.getD i 0).num)) = ab sp from rfl]
  fail "dls"
  refine we_lcO [("part", 7)] [7] (by fail "ok") hX (by decide +kernel) ?_
  fail "dls"
  refine ⟨by omega, gOf prD (fun p => some (.int p.1)), ?_, ?_⟩
  · intro j d hd
    obtain ⟨q, hq, rfl⟩ := map_at hd
    rw [gOf_at prD_inj]
    fail "dls"
    rfl
  rw [gOf_map prD_inj, fm_some, show (fun p : Int × Int => D.int p.1) = D.int ∘ Prod.fst from rfl, ← List.map_map]
  fail "dls"
  refine wc_min1 (by fail "as") (by fail "as") (ns := (sp.map pr).map Prod.fst) (by rfl) (by simp; omega) fun m hm1 hm2 => ?_
  have m0 : 0 ≤ m := by
    obtain ⟨p, hp, rfl⟩ := List.mem_map.mp hm1
    obtain ⟨q, hq, rfl⟩ := List.mem_map.mp hp
    exact Rat.num_nonneg.mpr (hs.nn q hq)
  have ab2 := ho.two
  have ab3 : ((ab sp).map fun i : Nat => D.int (i : Int)).length ≤ 2 := by rw [List.length_map]; exact ab2
  fail "dls"
  · exact lsum_pr (by omega) hs2
  · rename_i o2 u2 hq
    exact ⟨hq.1, by decide, hq.2.1.mono (by decide), hq.2.2.1.mono (by decide), bd_one (by decide), bd_one (by decide)⟩
  · rename_i o2 u2 hq hc
    exact absurd (by rw [hq.2.2.2.1, pr_sum, hs.sum, di11]) hc
  refine we_lcO [("place", 8)] [8] (by fail "ok") hX (by decide +kernel) ?_
  fail "dls"
  refine ⟨by omega, gOf (fun i : Nat => D.int (i : Int)) (fun i => some (prD (ns.getD i 0 * (pr (sp.getD i 0)).1, (pr (sp.getD i 0)).2))), ?_, ?_⟩
  · intro j d hd
    obtain ⟨i, hi, rfl⟩ := map_at hd
    rw [gOf_at nat_inj]
    obtain ⟨q, hq, eq⟩ := ab_at (mem_at hi)
    obtain ⟨z, hz⟩ := at_lt (xs := ns) (i := i) (by have := lt_at hq; omega)
    have ez : ns.getD i 0 = z := by rw [List.getD_eq_getElem?_getD, hz]; rfl
    have bz := hn.bd67 (mem_at hz)
    rw [eq, ez]
    fail "dls"
    refine wi_seq (by fail "as") rfl (atI_n (d := .int z) (by rw [List.getElem?_map, hz]; rfl)) ?_
    fail "dls"
    refine wi_seq (by fail "as") rfl (atI_n (pat hq)) ?_
    fail "dls"
    · exact cmulX bz (hs2 q (mem_at hq)).num (by decide)
    refine wi_seq (by fail "as") rfl (atI_n (pat hq)) ?_
    fail "dls"
    rfl
  rw [gOf_map nat_inj, fm_some, show (ab sp).map (fun i => prD (ns.getD i 0 * (pr (sp.getD i 0)).1, (pr (sp.getD i 0)).2)) = (ps2 ns sp).map prD by unfold ps2; rw [List.map_map]; rfl]
  fail "dls"
  · exact ps2_ok (by omega) hn hs2 (by omega)
  · rename_i o3 u3 hq3
    exact ⟨hq3.1, hm.u1, hq3.2.1.mono (by decide), hq3.2.2.1.mono (by decide), (bd_o hm hn).mono (by decide), hm.bu.mono (by decide)⟩
  · rename_i o3 u3 hq3 hc
    exact absurd (by rw [hq3.2.2.2.1, ps2_sum hs.nn (by omega), ho.mean hn]) hc
  refine we_lcO [("place", 8)] [8] (by fail "ok") hX (by decide +kernel) ?_
  fail "dls"
  refine ⟨by omega, gOf (fun i : Nat => D.int (i : Int)) (fun i => if decide (a ≤ ns.getD i 0) = true then some (prD (pr (sp.getD i 0))) else none), ?_, ?_⟩
  · intro j d hd
    obtain ⟨i, hi, rfl⟩ := map_at hd
    rw [gOf_at nat_inj]
    obtain ⟨q, hq, eq⟩ := ab_at (mem_at hi)
    obtain ⟨z, hz⟩ := at_lt (xs := ns) (i := i) (by have := lt_at hq; omega)
    have ez : ns.getD i 0 = z := by rw [List.getD_eq_getElem?_getD, hz]; rfl
    rw [eq, ez]
    fail "dls"
    refine wi_seq (by fail "as") rfl (atI_n (d := .int z) (by rw [List.getElem?_map, hz]; rfl)) ?_
    fail "dls"
    · rename_i hc _ _
      refine wi_seq (by fail "as") rfl (atI_n (pat hq)) ?_
      fail "dls"
      exact if_pos (decide_eq_true hc)
    · rename_i hc
      exact if_neg (fun e => hc (of_decide_eq_true e))
  rw [gOf_map nat_inj, fm_filter, show ((ab sp).filter fun i => decide (a ≤ ns.getD i 0)).map (fun i => prD (pr (sp.getD i 0))) = (ps3 ns sp a).map prD by unfold ps3; rw [List.map_map]; rfl]
  fail "dls"
  · exact ps3_ok (by omega) hs2
  · rename_i o4 u4 hq4
    exact ⟨hq4.1, y0, hq4.2.1.mono (by decide), hq4.2.2.1.mono (by decide), bx.mono (by decide), by'.mono (by decide)⟩
  · rename_i o4 u4 hq4
    rw [decide_eq_true (show Rat.divInt o4 u4 = Rat.divInt x y by rw [hq4.2.2.2.1, ps3_sum hs.nn (by omega), hv])]
    exact h
set_option maxHeartbeats 4000000 in
theorem fk__law_told_line {P : Program} {w : World} {K : PySem.W.Frag} {mg : Str → Option Value} {base : Heap} {cShare : Addr} (T : Txt K mg cShare) : Fk P w K mg base (wd K cShare) "_law_told_line" ["numbers", "at", "mean", "greatest"] 0 dsp__law_told_line 12 := by
  obtain ⟨f, fd, F, hm⟩ := T.d__law_told_line.ex
  refine ⟨f, fd, fn_D2 F sc__law_told_line vi__law_told_line gl__law_told_line rfl (fun as M Ψ E h => ?_) (fun X as M Ψ E ok own hX hM h => ?_), hm, F.kp, F.binds fun _ _ _ _ _ _ us hl => match us, hl with | [_, _, _, _], _ => rfl⟩
  · obtain ⟨ns, a, o, u, x, y, rfl, hp, h⟩ := h <;> rfl
  have l0 : Lv X "numbers" 0 := ok.lv 0 rfl (by decide) rfl rfl
  have t0 : Ls X "numbers" 0 := ok.ls 0 rfl (by decide)
  have l1 : Lv X "at" 1 := ok.lv 1 rfl (by decide) rfl rfl
  have t1 : Ls X "at" 1 := ok.ls 1 rfl (by decide)
  have l2 : Lv X "mean" 2 := ok.lv 2 rfl (by decide) rfl rfl
  have t2 : Ls X "mean" 2 := ok.ls 2 rfl (by decide)
  have l3 : Lv X "greatest" 3 := ok.lv 3 rfl (by decide) rfl rfl
  have t3 : Ls X "greatest" 3 := ok.ls 3 rfl (by decide)
  have l4 : Lv X "told" 4 := ok.lv 4 rfl (by decide) rfl rfl
  have t4 : Ls X "told" 4 := ok.ls 4 rfl (by decide)
  have l5 : Lv X "line" 5 := ok.lv 5 rfl (by decide) rfl rfl
  have t5 : Ls X "line" 5 := ok.ls 5 rfl (by decide)
  have z4 : FzV 4 := ⟨⟩
  have z5 : FzV 5 := ⟨⟩
  have f0 := ok.fc 0 (x := "tail_line") rfl (fk_tail_line T) (by decide) rfl
  have b1 : Bt X "list" "list" := ok.bt 1 rfl T.b_list rfl (by decide) rfl
  have f2 := ok.cc 2 (x := "Share") (c := 0) rfl (fk_Share_init T) (by decide) rfl
  have b3 : Bk X "isinstance" "isinstance" := ok.bk 3 rfl T.b_isinstance rfl (by decide) rfl
  have b4 : Bt X "tuple" "tuple" := ok.bt 4 rfl T.b_tuple rfl (by decide) rfl
  have b5 : Bk X "len" "len" := ok.bk 5 rfl T.b_len rfl (by decide) rfl
  have f6 := ok.fc 6 (x := "_law_pair") rfl (fk__law_pair T) (by decide) rfl
  have f7 := ok.fc 7 (x := "_law_line_fits") rfl (fk__law_line_fits T) (by decide) rfl
  have f8 := ok.fc 8 (x := "_law_like") rfl (fk__law_like T) (by decide) rfl
  have f9 := ok.fc 9 (x := "_law_sum") rfl (fk__law_sum T) (by decide) rfl
  have kShare := T.cls_Share
  have sShare : IsF X.K (wd K cShare) 0 := by rw [show X.K = K from ok.kE]; exact T.isf_Share
  have jShare : PySem.W.kitOne X.K (.ref cShare) (.ref cShare) = some true := by rw [show X.K = K from ok.kE]; exact T.kc_Share
  have qShare0 : ((wd K cShare).cf 0)[0]? = some ("over" : Str) := rfl
  have qShare1 : ((wd K cShare).cf 0)[1]? = some ("under" : Str) := rfl
  have calm := ok.calm
  have wk := ok.wk
  obtain ⟨ns, a, o, u, x, y, rfl, hp, h⟩ := h
  obtain rfl : M = [] := List.eq_nil_of_length_eq_zero hM
  refine ws_rho (by fail "rho") ?_
  obtain ⟨hn, hm, hg⟩ := hp
  have bo := bd_o hm hn
  have bu := hm.bu
  fail "dls"
  · exact ⟨hm.u1, bu.mono (by decide)⟩
  · exact ⟨hn, hm.mid hn⟩
  · rename_i hc _
    exact absurd rfl hc
  · rename_i hc _
    cases hc
  · rename_i hc
    cases hc
  · rename_i c s g hq _ _ _ _
    exact ⟨hn, den_pos c, den_pos s, hq.2.2.2.1.num.mono (by decide), hq.2.2.2.1.dn.mono (by decide), hq.2.2.2.2.num.mono (by decide), hq.2.2.2.2.dn.mono (by decide)⟩
  · rename_i c s g hq _ _ _ _ hc
    rw [frac_q, frac_q, hq.2.1] at hc
    cases hc
  · rename_i c s g hq _ _ _ _ _
    exact cmulX hq.2.2.2.2.num bo (by decide)
  · rename_i c s g hq _ _ _ _ _
    exact cmulX hq.2.2.2.2.dn bu (by decide)
  rename_i c s g hq _ _ _ _ hc
  have z1 := hq.2.2.2.1
  have z2 := hq.2.2.2.2
  have eg := hg.fin hn hm.u1 hq.1
  refine ca_lsu (ps := [(c.num, (c.den : Int)), (s.num * o, (s.den : Int) * u)]) ⟨Nat.le_of_ble_eq_true rfl, ?_⟩ fun O U hO => ?_
  · intro p hp
    simp only [List.mem_cons, List.not_mem_nil, or_false] at hp
    rcases hp with rfl | rfl
    · exact ⟨den_pos c, z1.num.mono (by decide), z1.dn.mono (by decide)⟩
    · exact ⟨Int.mul_pos (den_pos s) hm.u1, bd_mulD z2.num bo (by decide), bd_mulD z2.dn bu (by decide)⟩
  have eO : Rat.divInt O U = Rat.divInt x y := by
    rw [hO.2.2.2.1, eg, ← hq.2.2.1]
    have e2 : frac (s.num * o, (s.den : Int) * u) = s * Rat.divInt o u := by
      unfold frac
      rw [← Rat.divInt_mul_divInt, Rat.num_divInt_den]
    simp only [List.map_cons, List.map_nil, qsum, frac_q, e2]
    rw [Rat.add_zero]
  fail "dls"
  · exact ⟨hO.1, hg.b0, hO.2.1.mono (by decide), hO.2.2.1.mono (by decide), hg.sa.mono (by decide), hg.sb.mono (by decide)⟩
  · rename_i hc
    exact absurd eO hc
  · exact h c s ⟨hq.2.1, z1, z2⟩
structure LP (a b : Int) : Prop where
  b0 : 0 < b
  sa : Bd 400 a
  sb : Bd 400 b
structure LQ (a b : Int) : Prop where
  b0 : 0 < b
  sa : Bd 1000 a
  sb : Bd 1000 b
theorem LP.q {a b : Int} (h : LP a b) : LQ a b := ⟨h.b0, h.sa.mono (by decide), h.sb.mono (by decide)⟩
theorem ca_ls2 {C : Dl.Ctx} {ρ : Rho} {M : Mm} {Ψ : AV → Mm → Prop} {a b c d : Int} (h1 : LP a b ∧ LP c d) (h : ∀ o u, LQ o u → Ψ (.d (.lst [.int o, .int u])) M) : call0 C ρ dsp__law_sum [.d (.lst [.lst [.int a, .int b], .lst [.int c, .int d]])] M Ψ := by
  refine ca_lsu (ps := [(a, b), (c, d)]) ⟨Nat.le_of_ble_eq_true rfl, fun p hp => ?_⟩ fun o u hq => h o u ⟨hq.1, hq.2.2.2.2.1.mono (Nat.le_of_ble_eq_true rfl), hq.2.2.2.2.2.mono (Nat.le_of_ble_eq_true rfl)⟩
  simp only [List.mem_cons, List.not_mem_nil, or_false] at hp
  rcases hp with rfl | rfl
  · exact ⟨h1.1.b0, h1.1.sa, h1.1.sb⟩
  · exact ⟨h1.2.b0, h1.2.sa, h1.2.sb⟩
abbrev lD (l : (Int × Int) × (Int × Int)) : D := .lst [prD l.1, prD l.2]
def LOk (l : (Int × Int) × (Int × Int)) : Prop := LQ l.1.1 l.1.2 ∧ LQ l.2.1 l.2.2
local macro_rules | `(tactic| fail "dl_u") => `(tactic| with_reducible refine Lw.ca_ls2 ?_ fun o u hq => ?_)
set_option maxHeartbeats 4000000 in
theorem fk__law_lines_judged {P : Program} {w : World} {K : PySem.W.Frag} {mg : Str → Option Value} {base : Heap} {cShare : Addr} (T : Txt K mg cShare) : Fk P w K mg base (wd K cShare) "_law_lines_judged" ["stream", "numbers", "at", "line"] 1 dsp__law_lines_judged 7 := by
  obtain ⟨f, fd, F, hm⟩ := T.d__law_lines_judged.ex
  refine ⟨f, fd, fn_D2 F sc__law_lines_judged vi__law_lines_judged gl__law_lines_judged rfl (fun as M Ψ E h => ?_) (fun X as M Ψ E ok own hX hM h => ?_), hm, F.kp, F.binds fun _ _ _ _ _ _ us hl => match us, hl with | [_, _, _, _], _ => rfl⟩
  · obtain ⟨ns, t, v, s, a, b, c, rfl, rfl, hp, h⟩ := h <;> rfl
  have l0 : Lv X "stream" 0 := ok.lv 0 rfl (by decide) rfl rfl
  have t0 : Ls X "stream" 0 := ok.ls 0 rfl (by decide)
  have l1 : Lv X "numbers" 1 := ok.lv 1 rfl (by decide) rfl rfl
  have t1 : Ls X "numbers" 1 := ok.ls 1 rfl (by decide)
  have l2 : Lv X "at" 2 := ok.lv 2 rfl (by decide) rfl rfl
  have t2 : Ls X "at" 2 := ok.ls 2 rfl (by decide)
  have l3 : Lv X "line" 3 := ok.lv 3 rfl (by decide) rfl rfl
  have t3 : Ls X "line" 3 := ok.ls 3 rfl (by decide)
  have l4 : Lv X "wide" 4 := ok.lv 4 rfl (by decide) rfl rfl
  have t4 : Ls X "wide" 4 := ok.ls 4 rfl (by decide)
  have l5 : Lv X "steps" 5 := ok.lv 5 rfl (by decide) rfl rfl
  have t5 : Ls X "steps" 5 := ok.ls 5 rfl (by decide)
  have l6 : Lv X "step" 6 := ok.lv 6 rfl (by decide) rfl rfl
  have t6 : Ls X "step" 6 := ok.ls 6 rfl (by decide)
  have l7 : Lv X "less" 7 := ok.lv 7 rfl (by decide) rfl rfl
  have t7 : Ls X "less" 7 := ok.ls 7 rfl (by decide)
  have l8 : Lv X "lines" 8 := ok.lv 8 rfl (by decide) rfl rfl
  have t8 : Ls X "lines" 8 := ok.ls 8 rfl (by decide)
  have l9 : Lv X "place" 9 := ok.lv 9 rfl (by decide) rfl rfl
  have t9 : Ls X "place" 9 := ok.ls 9 rfl (by decide)
  have l10 : Lv X "first" 10 := ok.lv 10 rfl (by decide) rfl rfl
  have t10 : Ls X "first" 10 := ok.ls 10 rfl (by decide)
  have l11 : Lv X "second" 11 := ok.lv 11 rfl (by decide) rfl rfl
  have t11 : Ls X "second" 11 := ok.ls 11 rfl (by decide)
  have l12 : Lv X "asked" 12 := ok.lv 12 rfl (by decide) rfl rfl
  have t12 : Ls X "asked" 12 := ok.ls 12 rfl (by decide)
  have z5 : FzV 5 := ⟨⟩
  have z7 : FzV 7 := ⟨⟩
  have z12 : FzV 12 := ⟨⟩
  have c13 : (N__law_lines_judged)[13]? = some ("part" : Str) := rfl
  have bx0 : Bx X "abs" "abs" := ok.bx T.b_abs rfl (by decide) rfl
  have f0 := ok.fc 0 (x := "_law_draw") rfl (fk__law_draw T) (by decide) rfl
  have b1 : Bk X "max" "max" := ok.bk 1 rfl T.b_max rfl (by decide) rfl
  have f2 := ok.fc 2 (x := "_law_sum") rfl (fk__law_sum T) (by decide) rfl
  have b3 : Bt X "range" "range" := ok.bt 3 rfl T.b_range rfl (by decide) rfl
  have e3 : (g__law_lines_judged)[3]? = some ("range" : Str) := rfl
  have m3 : mg "range" = none := T.b_range
  have b4 : Bk X "len" "len" := ok.bk 4 rfl T.b_len rfl (by decide) rfl
  have f5 := ok.cc 5 (x := "Share") (c := 0) rfl (fk_Share_init T) (by decide) rfl
  have b6 : Bt X "list" "list" := ok.bt 6 rfl T.b_list rfl (by decide) rfl
  have f7 := ok.fc 7 (x := "_law_same") rfl (fk__law_same T) (by decide) rfl
  have f8 := ok.fc 8 (x := "is_line") rfl (fk_is_line T) (by decide) rfl
  have b9 : Bt X "tuple" "tuple" := ok.bt 9 rfl T.b_tuple rfl (by decide) rfl
  have f10 := ok.fc 10 (x := "_law_line_fits") rfl (fk__law_line_fits T) (by decide) rfl
  have kShare := T.cls_Share
  have sShare : IsF X.K (wd K cShare) 0 := by rw [show X.K = K from ok.kE]; exact T.isf_Share
  have jShare : PySem.W.kitOne X.K (.ref cShare) (.ref cShare) = some true := by rw [show X.K = K from ok.kE]; exact T.kc_Share
  have qShare0 : ((wd K cShare).cf 0)[0]? = some ("over" : Str) := rfl
  have qShare1 : ((wd K cShare).cf 0)[1]? = some ("under" : Str) := rfl
  have calm := ok.calm
  have wk := ok.wk
  obtain ⟨ns, t, v, s, a, b, c, rfl, rfl, hp, h⟩ := h
  refine ws_rho (by fail "rho") ?_
  obtain ⟨hn, h1, h2⟩ := hp
  have h8 := hn.hi
  have n2 := hn.lo
  obtain ⟨x, hx⟩ := at_lt (xs := ns) (i := 0) (by omega)
  obtain ⟨y, hy⟩ := at_lt (xs := ns) (i := ns.length - 1) (by omega)
  have hxy : x < y := asc_lt hn hx hy (by omega)
  have bx := hn.bd67 (mem_at hx)
  have by' := hn.bd67 (mem_at hy)
  have bw : Bd 68 (y - x) := (by'.sub bx).mono (by decide)
  fail "dls"
  refine wi_seq wk rfl (at_last hy) ?_
  fail "dls"
  refine wi_seq wk rfl (atI_n (n := 0) (d := .int x) (by rw [List.getElem?_map, hx]; rfl)) ?_
  fail "dls"
  rename_i r1 a1 b1 c1 hr1 r2 a2 b2 c2 hr2
  obtain ⟨st, hst, s0, s1, s2⟩ : ∃ st : Int × Int, atI [D.lst [.int 1, .int (1 + r1)], .lst [.int 1, .int 1], .lst [.int 1, .int 1000000000000], .lst [.int (y - x), .int 1], .lst [.int 1, .int (y - x)]] r2 = some (prD st) ∧ 0 < st.2 ∧ Bd 68 st.1 ∧ Bd 68 st.2 := by
    have q : r2 = 0 ∨ r2 = 1 ∨ r2 = 2 ∨ r2 = 3 ∨ r2 = 4 := by omega
    rcases q with rfl | rfl | rfl | rfl | rfl
    · exact ⟨(1, 1 + r1), rfl, by show 0 < 1 + r1; omega, bd_one (by decide), by show Bd 68 (1 + r1); unfold Bd; omega⟩
    · exact ⟨(1, 1), rfl, by decide, bd_one (by decide), bd_one (by decide)⟩
    · exact ⟨(1, 1000000000000), rfl, by decide, bd_one (by decide), by unfold Bd; decide⟩
    · exact ⟨(y - x, 1), rfl, (by show (0 : Int) < 1; decide), bw, bd_one (by decide)⟩
    · exact ⟨(1, y - x), rfl, by show 0 < y - x; omega, bd_one (by decide), bw⟩
  refine wi_seq wk rfl hst ?_
  fail "dls"
  refine we_lcO [("part", 13)] [13] (by fail "ok") hX (by decide +kernel) ?_
  fail "dls"
  
  · exact Nat.le_of_ble_eq_true rfl
  have lp1 : LP v.num (v.den : Nat) := ⟨den_pos v, h1.num.mono (by decide), h1.dn.mono (by decide)⟩
  have lp2 : LP s.num (s.den : Nat) := ⟨den_pos s, h2.num.mono (by decide), h2.dn.mono (by decide)⟩
  have lp3 : LP (0 - st.1) st.2 := ⟨s0, by have := s1; unfold Bd at *; omega, s2.mono (by decide)⟩
  have lp4 : LP st.1 st.2 := ⟨s0, s1.mono (by decide), s2.mono (by decide)⟩
  refine ⟨Nat.le_of_ble_eq_true rfl, gOf D.int (fun i => some (.int (if i < 0 then -i else i))), ?_, ?_⟩
  · intro j d hd
    obtain ⟨i, rfl⟩ : ∃ i : Int, d = .int i := by
      have := mem_at hd
      simp only [List.cons_append, List.nil_append, List.mem_cons, List.not_mem_nil, or_false] at this
      rcases this with e | e | e | e <;> exact ⟨_, e⟩
    rw [gOf_at int_inj]
    fail "dls"
    rfl
  rw [show ([D.int (v.num, ((v.den : Nat) : Int)).1, D.int (v.num, ((v.den : Nat) : Int)).2] ++ [D.int (s.num, ((s.den : Nat) : Int)).1, D.int (s.num, ((s.den : Nat) : Int)).2]) = [v.num, ((v.den : Nat) : Int), s.num, ((s.den : Nat) : Int)].map D.int from rfl, gOf_map int_inj, fm_some, show (fun i : Int => D.int (if i < 0 then -i else i)) = D.int ∘ (fun i : Int => if i < 0 then -i else i) from rfl, ← List.map_map]
  fail "dls"
  refine wc_max1 (by fail "as") (by fail "as") (ns := [v.num, ((v.den : Nat) : Int), s.num, ((s.den : Nat) : Int)].map fun i : Int => if i < 0 then -i else i) (by rfl) (Nat.le_of_ble_eq_true rfl) fun mx _ _ => ?_
  fail "dls"
  all_goals first
    | exact ⟨lp1, lp3⟩
    | exact ⟨lp2, lp3⟩
    | exact ⟨lp1, lp4⟩
    | exact ⟨lp2, lp4⟩
    | exact Nat.le_of_ble_eq_true rfl
    | skip
  all_goals refine wi_seq wk rfl (atI_n (n := 0) (d := .int x) (by rw [List.getElem?_map, hx]; rfl)) ?_
  all_goals fail "dls"
  all_goals first
    | exact Nat.le_of_ble_eq_true rfl
    | skip
  all_goals refine wi_seq wk rfl (at_last hy) ?_
  all_goals fail "dls"
  all_goals first
    | exact Nat.le_of_ble_eq_true rfl
    | skip
  all_goals have lq01 : LQ 0 1 := ⟨by decide, by unfold Bd; decide, bd_one (by decide)⟩
  all_goals have lq11 : LQ 1 1 := ⟨by decide, bd_one (by decide), bd_one (by decide)⟩
  all_goals have lqx : LQ (0 - x) (y - x) := ⟨by omega, (show Bd 67 (0 - x) by unfold Bd at *; omega).mono (by decide), bw.mono (by decide)⟩
  all_goals have lqy : LQ y (y - x) := ⟨by omega, by'.mono (by decide), bw.mono (by decide)⟩
  all_goals have lq1w : LQ 1 (y - x) := ⟨by omega, bd_one (by decide), bw.mono (by decide)⟩
  all_goals have lqm : LQ (0 - 1) (y - x) := ⟨by omega, (show Bd 2 (0 - 1) by unfold Bd; decide).mono (by decide), bw.mono (by decide)⟩
  all_goals have lq3 : Bd 1000 3 := (show Bd 2 3 by unfold Bd; decide).mono (by decide)
  · rename_i o1 u1 w1 o2 u2 w2 o3 u3 w3 o4 u4 w4 r3 a3 b3 c3 hr3 r4 a4 b4 c4 hr4 r5 a5 b5 c5 hr5
    obtain ⟨ls, els, hls⟩ : ∃ ls : List ((Int × Int) × (Int × Int)), ls = [((v.num, ((v.den : Nat) : Int)), (s.num, ((s.den : Nat) : Int))), ((o1, u1), (s.num, ((s.den : Nat) : Int))), ((v.num, ((v.den : Nat) : Int)), (o2, u2)), ((o3, u3), (s.num, ((s.den : Nat) : Int))), ((v.num, ((v.den : Nat) : Int)), (o4, u4)), ((0, 1), (0, 1)), ((1, 1), (0, 1)), ((0 - x, y - x), (1, y - x)), ((y, y - x), (0 - 1, y - x)), ((r3 - 2, 1 + r4), (r5 - 2, 3))] ∧ ∀ l ∈ ls, LOk l := ⟨_, rfl, by
      intro l hl
      simp only [List.mem_cons, List.not_mem_nil, or_false] at hl
      rcases hl with rfl | rfl | rfl | rfl | rfl | rfl | rfl | rfl | rfl | rfl
      · exact ⟨lp1.q, lp2.q⟩
      · exact ⟨w1, lp2.q⟩
      · exact ⟨lp1.q, w2⟩
      · exact ⟨w3, lp2.q⟩
      · exact ⟨lp1.q, w4⟩
      · exact ⟨lq01, lq01⟩
      · exact ⟨lq11, lq01⟩
      · exact ⟨lqx, lq1w⟩
      · exact ⟨lqy, lqm⟩
      · exact ⟨⟨by show 0 < 1 + r4; omega, by show Bd 1000 (r3 - 2); exact (show Bd 60 (r3 - 2) by unfold Bd; omega).mono (by decide), by show Bd 1000 (1 + r4); exact (show Bd 60 (1 + r4) by unfold Bd; omega).mono (by decide)⟩, ⟨by show (0 : Int) < 3; decide, by show Bd 1000 (r5 - 2); exact (show Bd 60 (r5 - 2) by unfold Bd; omega).mono (by decide), lq3⟩⟩⟩
    have hll : (ls.map lD).length ≤ 10 := by rw [els]; exact Nat.le_of_ble_eq_true rfl
    refine w1_forget 8 [some (.m 0), some (.d (lI ns)), some (.d (.int t)), none, none, none, none, none, some (.m 7), none, none, none, none, none] [stm _ _ _, _, _, _, _, _, _, .l (ls.map lD)] (by rfl) (by fail "ler") (by rfl) (by rw [els]; rfl) ?_
    refine w1_for ok own ?_
    fail "dls"
    refine ⟨fun i ρ M => ∃ (a b c : Int) (m1 m2 m3 m4 m5 m6 : MO) (y9 y10 y11 y12 : Option AV) (R : Mm), ρ = [some (.m 0), some (.d (lI ns)), some (.d (.int t)), none, none, none, none, none, some (.m 7), y9, y10, y11, y12, none] ∧ M = stm a b c :: m1 :: m2 :: m3 :: m4 :: m5 :: m6 :: .l (ls.map lD) :: R, ⟨_, _, _, _, _, _, _, _, _, _, _, _, _, _, rfl, rfl⟩, ?_, ?_⟩
    · rintro i d ρ' M' hi hd ⟨a, b, c, m1, m2, m3, m4, m5, m6, y9, y10, y11, y12, R, rfl, rfl⟩
      obtain ⟨hi2, rfl⟩ := rgL_mem hd
      rw [Int.zero_add]
      have hi3 : i < ls.length := by simp at hi2; omega
      obtain ⟨l, hl⟩ := at_lt hi3
      obtain ⟨q1, q2⟩ := hls l (mem_at hl)
      have pl : (ls.map lD)[i]? = some (lD l) := by rw [List.getElem?_map, hl]; rfl
      have z1 : Sz 1000 (Rat.divInt l.1.1 l.1.2) := sz_di q1.b0 q1.sa q1.sb
      have z2 : Sz 1000 (Rat.divInt l.2.1 l.2.2) := sz_di q2.b0 q2.sa q2.sb
      fail "dlg"
      refine ws_forget 8 [some (.m 0), some (.d (lI ns)), some (.d (.int t)), none, none, none, none, none, some (.m 7), some (.d (.int (i : Nat))), none, none, none, none] [stm a b c, m1, m2, m3, m4, m5, m6, .l (ls.map lD)] (by rfl) (by fail "ler") (by rfl) (by rfl) ?_
      fail "dls"
      refine wi_seq (by fail "as") (by rfl) (atI_n pl) ?_
      fail "dls"
      all_goals first
        | decide
        | exact ⟨q1.b0, q1.sb.mono (by decide)⟩
        | exact ⟨q2.b0, q2.sb.mono (by decide)⟩
        | exact ⟨hn, z1, z2⟩
        | skip
      all_goals refine wi_seq (by fail "as") (by rfl) (atI_n pl) ?_
      all_goals fail "dls"
      all_goals first
        | exact ⟨hn, q1.b0, q2.b0, q1.sa, q1.sb, q2.sa, q2.sb⟩
        | rfl
        | exact ⟨_, _, _, _, _, _, _, _, _, _, _, _, _, _, rfl, rfl⟩
        | skip
    · rintro ρ' M' ⟨a, b, c, m1, m2, m3, m4, m5, m6, y9, y10, y11, y12, R, rfl, rfl⟩
      fail "dls"
      exact h _ _ _
  · rename_i r3 a3 b3 c3 hr3 r4 a4 b4 c4 hr4 r5 a5 b5 c5 hr5
    obtain ⟨ls, els, hls⟩ : ∃ ls : List ((Int × Int) × (Int × Int)), ls = [((v.num, ((v.den : Nat) : Int)), (s.num, ((s.den : Nat) : Int))), ((0, 1), (0, 1)), ((1, 1), (0, 1)), ((0 - x, y - x), (1, y - x)), ((y, y - x), (0 - 1, y - x)), ((r3 - 2, 1 + r4), (r5 - 2, 3))] ∧ ∀ l ∈ ls, LOk l := ⟨_, rfl, by
      intro l hl
      simp only [List.mem_cons, List.not_mem_nil, or_false] at hl
      rcases hl with rfl | rfl | rfl | rfl | rfl | rfl
      · exact ⟨lp1.q, lp2.q⟩
      · exact ⟨lq01, lq01⟩
      · exact ⟨lq11, lq01⟩
      · exact ⟨lqx, lq1w⟩
      · exact ⟨lqy, lqm⟩
      · exact ⟨⟨by show 0 < 1 + r4; omega, by show Bd 1000 (r3 - 2); exact (show Bd 60 (r3 - 2) by unfold Bd; omega).mono (by decide), by show Bd 1000 (1 + r4); exact (show Bd 60 (1 + r4) by unfold Bd; omega).mono (by decide)⟩, ⟨by show (0 : Int) < 3; decide, by show Bd 1000 (r5 - 2); exact (show Bd 60 (r5 - 2) by unfold Bd; omega).mono (by decide), lq3⟩⟩⟩
    have hll : (ls.map lD).length ≤ 10 := by rw [els]; exact Nat.le_of_ble_eq_true rfl
    refine w1_forget 4 [some (.m 0), some (.d (lI ns)), some (.d (.int t)), none, none, none, none, none, some (.m 3), none, none, none, none, none] [stm _ _ _, _, _, .l (ls.map lD)] (by rfl) (by fail "ler") (by rfl) (by rw [els]; rfl) ?_
    refine w1_for ok own ?_
    fail "dls"
    refine ⟨fun i ρ M => ∃ (a b c : Int) (m1 m2 : MO) (y9 y10 y11 y12 : Option AV) (R : Mm), ρ = [some (.m 0), some (.d (lI ns)), some (.d (.int t)), none, none, none, none, none, some (.m 3), y9, y10, y11, y12, none] ∧ M = stm a b c :: m1 :: m2 :: .l (ls.map lD) :: R, ⟨_, _, _, _, _, _, _, _, _, _, rfl, rfl⟩, ?_, ?_⟩
    · rintro i d ρ' M' hi hd ⟨a, b, c, m1, m2, y9, y10, y11, y12, R, rfl, rfl⟩
      obtain ⟨hi2, rfl⟩ := rgL_mem hd
      rw [Int.zero_add]
      have hi3 : i < ls.length := by simp at hi2; omega
      obtain ⟨l, hl⟩ := at_lt hi3
      obtain ⟨q1, q2⟩ := hls l (mem_at hl)
      have pl : (ls.map lD)[i]? = some (lD l) := by rw [List.getElem?_map, hl]; rfl
      have z1 : Sz 1000 (Rat.divInt l.1.1 l.1.2) := sz_di q1.b0 q1.sa q1.sb
      have z2 : Sz 1000 (Rat.divInt l.2.1 l.2.2) := sz_di q2.b0 q2.sa q2.sb
      fail "dlg"
      refine ws_forget 4 [some (.m 0), some (.d (lI ns)), some (.d (.int t)), none, none, none, none, none, some (.m 3), some (.d (.int (i : Nat))), none, none, none, none] [stm a b c, m1, m2, .l (ls.map lD)] (by rfl) (by fail "ler") (by rfl) (by rfl) ?_
      fail "dls"
      refine wi_seq (by fail "as") (by rfl) (atI_n pl) ?_
      fail "dls"
      all_goals first
        | decide
        | exact ⟨q1.b0, q1.sb.mono (by decide)⟩
        | exact ⟨q2.b0, q2.sb.mono (by decide)⟩
        | exact ⟨hn, z1, z2⟩
        | skip
      all_goals refine wi_seq (by fail "as") (by rfl) (atI_n pl) ?_
      all_goals fail "dls"
      all_goals first
        | exact ⟨hn, q1.b0, q2.b0, q1.sa, q1.sb, q2.sa, q2.sb⟩
        | rfl
        | exact ⟨_, _, _, _, _, _, _, _, _, _, rfl, rfl⟩
        | skip
    · rintro ρ' M' ⟨a, b, c, m1, m2, y9, y10, y11, y12, R, rfl, rfl⟩
      fail "dls"
      exact h _ _ _
set_option maxHeartbeats 4000000 in
theorem fk__law_fits {P : Program} {w : World} {K : PySem.W.Frag} {mg : Str → Option Value} {base : Heap} {cShare : Addr} (T : Txt K mg cShare) : Fk P w K mg base (wd K cShare) "_law_fits" ["stream", "numbers", "mean", "at"] 1 dsp__law_fits 13 := by
  obtain ⟨f, fd, F, hm⟩ := T.d__law_fits.ex
  refine ⟨f, fd, fn_D2 F sc__law_fits vi__law_fits gl__law_fits rfl (fun as M Ψ E h => ?_) (fun X as M Ψ E ok own hX hM h => ?_), hm, F.kp, F.binds fun _ _ _ _ _ _ us hl => match us, hl with | [_, _, _, _], _ => rfl⟩
  · obtain ⟨ns, o, u, t, a, b, c, rfl, rfl, hp, h⟩ := h <;> rfl
  have l0 : Lv X "stream" 0 := ok.lv 0 rfl (by decide) rfl rfl
  have t0 : Ls X "stream" 0 := ok.ls 0 rfl (by decide)
  have l1 : Lv X "numbers" 1 := ok.lv 1 rfl (by decide) rfl rfl
  have t1 : Ls X "numbers" 1 := ok.ls 1 rfl (by decide)
  have l2 : Lv X "mean" 2 := ok.lv 2 rfl (by decide) rfl rfl
  have t2 : Ls X "mean" 2 := ok.ls 2 rfl (by decide)
  have l3 : Lv X "at" 3 := ok.lv 3 rfl (by decide) rfl rfl
  have t3 : Ls X "at" 3 := ok.ls 3 rfl (by decide)
  have l4 : Lv X "share" 4 := ok.lv 4 rfl (by decide) rfl rfl
  have t4 : Ls X "share" 4 := ok.ls 4 rfl (by decide)
  have l5 : Lv X "greatest" 5 := ok.lv 5 rfl (by decide) rfl rfl
  have t5 : Ls X "greatest" 5 := ok.ls 5 rfl (by decide)
  have l6 : Lv X "least" 6 := ok.lv 6 rfl (by decide) rfl rfl
  have t6 : Ls X "least" 6 := ok.ls 6 rfl (by decide)
  have l7 : Lv X "row" 7 := ok.lv 7 rfl (by decide) rfl rfl
  have t7 : Ls X "row" 7 := ok.ls 7 rfl (by decide)
  have l8 : Lv X "line" 8 := ok.lv 8 rfl (by decide) rfl rfl
  have t8 : Ls X "line" 8 := ok.ls 8 rfl (by decide)
  have l9 : Lv X "over" 9 := ok.lv 9 rfl (by decide) rfl rfl
  have t9 : Ls X "over" 9 := ok.ls 9 rfl (by decide)
  have z7 : FzV 7 := ⟨⟩
  have f0 := ok.cc 0 (x := "Share") (c := 0) rfl (fk_Share_init T) (by decide) rfl
  have f1 := ok.fc 1 (x := "_law_tails") rfl (fk__law_tails T) (by decide) rfl
  have b2 : Bt X "list" "list" := ok.bt 2 rfl T.b_list rfl (by decide) rfl
  have f3 := ok.fc 3 (x := "_law_same") rfl (fk__law_same T) (by decide) rfl
  have f4 := ok.fc 4 (x := "greatest_tail") rfl (fk_greatest_tail T) (by decide) rfl
  have f5 := ok.fc 5 (x := "least_tail") rfl (fk_least_tail T) (by decide) rfl
  have f6 := ok.fc 6 (x := "_law_spread_fits") rfl (fk__law_spread_fits T) (by decide) rfl
  have f7 := ok.fc 7 (x := "greatest_spread") rfl (fk_greatest_spread T) (by decide) rfl
  have b8 : Bt X "tuple" "tuple" := ok.bt 8 rfl T.b_tuple rfl (by decide) rfl
  have f9 := ok.fc 9 (x := "least_spread") rfl (fk_least_spread T) (by decide) rfl
  have f10 := ok.fc 10 (x := "_law_told_line") rfl (fk__law_told_line T) (by decide) rfl
  have f11 := ok.fc 11 (x := "_law_lines_judged") rfl (fk__law_lines_judged T) (by decide) rfl
  have f12 := ok.fc 12 (x := "greatest_square") rfl (fk_greatest_square T) (by decide) rfl
  have kShare := T.cls_Share
  have sShare : IsF X.K (wd K cShare) 0 := by rw [show X.K = K from ok.kE]; exact T.isf_Share
  have jShare : PySem.W.kitOne X.K (.ref cShare) (.ref cShare) = some true := by rw [show X.K = K from ok.kE]; exact T.kc_Share
  have qShare0 : ((wd K cShare).cf 0)[0]? = some ("over" : Str) := rfl
  have qShare1 : ((wd K cShare).cf 0)[1]? = some ("under" : Str) := rfl
  have calm := ok.calm
  have wk := ok.wk
  obtain ⟨ns, o, u, t, a, b, c, rfl, rfl, hp, h⟩ := h
  refine ws_rho (by fail "rho") ?_
  obtain ⟨hn, hm⟩ := hp
  have n2 := hn.lo
  have bo := bd_o hm hn
  have bu := hm.bu
  obtain ⟨x, hx⟩ := at_lt (xs := ns) (i := 0) (by omega)
  obtain ⟨y, hy⟩ := at_lt (xs := ns) (i := ns.length - 1) (by omega)
  obtain ⟨bx, _, bxu⟩ := bd_num hm hn hx
  obtain ⟨by', _, byu⟩ := bd_num hm hn hy
  have md := hm.mid hn
  fail "dls"
  all_goals first
    | exact ⟨hn, hm⟩
    | exact ⟨hn, md⟩
    | exact ⟨hm.u1, bu.mono (by decide)⟩
    | exact gi_same hn hm (by assumption) (by assumption)
    | exact li_same hn hm (by assumption) (by assumption)
    | exact gi_fits hn hm (by assumption) (by assumption)
    | exact li_fits hn hm (by assumption) (by assumption)
    | exact gi_told hn hm (by assumption)
    | (exfalso; rename_i hc _; cases hc; done)
    | exact told_jud hn (by assumption)
    | skip
  refine wi_seq (by fail "as") rfl (at_last hy) ?_
  fail "dls"
  · exact cmulX by' bu (by decide)
  refine wi_seq (by fail "as") rfl (atI_n (n := 0) (d := .int x) (by rw [List.getElem?_map, hx]; rfl)) ?_
  have b1 : Bd 76 (y * u - o) := (byu.sub bo).mono (by decide)
  have b2 : Bd 76 (o - x * u) := (bo.sub bxu).mono (by decide)
  fail "dls"
  · exact cmulX bx bu (by decide)
  · exact cmulX b1 b2 (by decide)
  · exact ⟨hn, md⟩
  · exact cmulX bu bu (by decide)
  · rename_i x' y' hq
    rw [hx, hy] at hq
    obtain ⟨e1, e2⟩ := hq
    cases e1; cases e2
    exact ⟨Int.mul_pos hm.u1 hm.u1, bd_mulD b1 b2 (by decide), bd_mulD bu bu (by decide), sq_eq hm.u1⟩
  all_goals first
    | exact dOk_ints _
    | exact h _ _ _
    | skip
set_option maxHeartbeats 4000000 in
theorem fk__law_holds {P : Program} {w : World} {K : PySem.W.Frag} {mg : Str → Option Value} {base : Heap} {cShare : Addr} (T : Txt K mg cShare) : Fk P w K mg base (wd K cShare) "_law_holds" ["script"] 0 dsp__law_holds 14 := by
  obtain ⟨f, fd, F, hm⟩ := T.d__law_holds.ex
  refine ⟨f, fd, fn_D2 F sc__law_holds vi__law_holds gl__law_holds rfl (fun as M Ψ E h => ?_) (fun X as M Ψ E ok own hX hM h => ?_), hm, F.kp, F.binds fun _ _ _ _ _ _ us hl => match us, hl with | [_], _ => rfl⟩
  · obtain ⟨cs, rfl, hl, h⟩ := h <;> rfl
  have l0 : Lv X "script" 0 := ok.lv 0 rfl (by decide) rfl rfl
  have t0 : Ls X "script" 0 := ok.ls 0 rfl (by decide)
  have l1 : Lv X "turn" 1 := ok.lv 1 rfl (by decide) rfl rfl
  have t1 : Ls X "turn" 1 := ok.ls 1 rfl (by decide)
  have l2 : Lv X "stream" 2 := ok.lv 2 rfl (by decide) rfl rfl
  have t2 : Ls X "stream" 2 := ok.ls 2 rfl (by decide)
  have l3 : Lv X "numbers" 3 := ok.lv 3 rfl (by decide) rfl rfl
  have t3 : Ls X "numbers" 3 := ok.ls 3 rfl (by decide)
  have l4 : Lv X "mean" 4 := ok.lv 4 rfl (by decide) rfl rfl
  have t4 : Ls X "mean" 4 := ok.ls 4 rfl (by decide)
  have l5 : Lv X "first" 5 := ok.lv 5 rfl (by decide) rfl rfl
  have t5 : Ls X "first" 5 := ok.ls 5 rfl (by decide)
  have l6 : Lv X "second" 6 := ok.lv 6 rfl (by decide) rfl rfl
  have t6 : Ls X "second" 6 := ok.ls 6 rfl (by decide)
  have l7 : Lv X "at" 7 := ok.lv 7 rfl (by decide) rfl rfl
  have t7 : Ls X "at" 7 := ok.ls 7 rfl (by decide)
  have b0 : Bt X "range" "range" := ok.bt 0 rfl T.b_range rfl (by decide) rfl
  have e0 : (g__law_holds)[0]? = some ("range" : Str) := rfl
  have m0 : mg "range" = none := T.b_range
  have f1 := ok.fc 1 (x := "_law_stream") rfl (fk__law_stream T) (by decide) rfl
  have f2 := ok.fc 2 (x := "_law_numbers") rfl (fk__law_numbers T) (by decide) rfl
  have f3 := ok.fc 3 (x := "_law_mean") rfl (fk__law_mean T) (by decide) rfl
  have f4 := ok.fc 4 (x := "_law_at") rfl (fk__law_at T) (by decide) rfl
  have f5 := ok.fc 5 (x := "_law_fits") rfl (fk__law_fits T) (by decide) rfl
  have kShare := T.cls_Share
  have sShare : IsF X.K (wd K cShare) 0 := by rw [show X.K = K from ok.kE]; exact T.isf_Share
  have jShare : PySem.W.kitOne X.K (.ref cShare) (.ref cShare) = some true := by rw [show X.K = K from ok.kE]; exact T.kc_Share
  have qShare0 : ((wd K cShare).cf 0)[0]? = some ("over" : Str) := rfl
  have qShare1 : ((wd K cShare).cf 0)[1]? = some ("under" : Str) := rfl
  have calm := ok.calm
  have wk := ok.wk
  obtain ⟨cs, rfl, hl, h⟩ := h
  obtain rfl : M = [] := List.eq_nil_of_length_eq_zero hM
  refine ws_rho (by fail "rho") ?_
  fail "dls"
  refine w1_for ok own ?_
  fail "dls"
  refine ⟨fun i ρ M => ∃ (y1 y2 y3 y4 y5 y6 y7 : Option AV) (R : Mm), ρ = [some (.d (lI cs)), y1, y2, y3, y4, y5, y6, y7] ∧ M = R, ⟨_, _, _, _, _, _, _, _, rfl, rfl⟩, ?_, ?_⟩
  · rintro i d ρ' M' hi hd ⟨y1, y2, y3, y4, y5, y6, y7, R, rfl, rfl⟩
    obtain ⟨hi2, rfl⟩ := rgL_mem hd
    fail "dlg"
    refine ws_forget 0 [some (.d (lI cs)), some (.d (.int (0 + (i : Int)))), none, none, none, none, none, none] [] (by rfl) (by fail "ler") (by rfl) (by rfl) ?_
    fail "dls"
    rename_i ns a1 b1 c1 hn o u a2 b2 c2 hm t1 a3 b3 c3 ht1 t2 a4 b4 c4 ht2
    refine w1_for (ok.at _) own ?_
    fail "dls"
    refine ⟨fun _ ρ M => ∃ (a b c : Int) (y7 : Option AV) (R : Mm), ρ = [some (.d (lI cs)), some (.d (.int (0 + (i : Int)))), some (.m 0), some (.d (lI ns)), some (.d (prD (o, u))), some (.d (.int t1)), some (.d (.int t2)), y7] ∧ M = stm a b c :: R, ⟨_, _, _, _, _, rfl, rfl⟩, ?_, ?_⟩
    · rintro k d ρ' M' hk hd ⟨a, b, c, y7, R, rfl, rfl⟩
      obtain ⟨t, rfl⟩ : ∃ t : Int, d = .int t := by
        have := mem_at hd
        simp only [List.mem_cons, List.not_mem_nil, or_false] at this
        rcases this with e | e | e <;> exact ⟨_, e⟩
      fail "dls"
      · exact ⟨hn, hm⟩
      · exact ⟨_, _, _, _, _, rfl, rfl⟩
    · rintro ρ' M' ⟨a, b, c, y7, R, rfl, rfl⟩
      exact ⟨_, _, _, _, _, _, _, _, rfl, rfl⟩
  · rintro ρ' M' ⟨y1, y2, y3, y4, y5, y6, y7, R, rfl, rfl⟩
    fail "dls"
    exact h
set_option maxHeartbeats 4000000 in
theorem ok_law {P : Program} {w : World} {K : PySem.W.Frag} {mg : Str → Option Value} {base : Heap} {cShare : Addr} (T : Txt K mg cShare) {f : Addr} {fd : FuncData} (F : Fun K "law" "law" s_law f fd) : FnOk P w K mg base (L2.CX P w) 15 f fd ["script"] (spOf (wd K cShare) 0 dsp_law) := by
  refine fn_D2 F sc_law vi_law gl_law rfl (fun as M Ψ E h => ?_) (fun X as M Ψ E ok own hX hM h => ?_)
  · obtain ⟨cs, rfl, hl, h⟩ := h <;> rfl
  have l0 : Lv X "script" 0 := ok.lv 0 rfl (by decide) rfl rfl
  have t0 : Ls X "script" 0 := ok.ls 0 rfl (by decide)
  have f0 := ok.fc 0 (x := "_law_holds") rfl (fk__law_holds T) (by decide) rfl
  have kShare := T.cls_Share
  have sShare : IsF X.K (wd K cShare) 0 := by rw [show X.K = K from ok.kE]; exact T.isf_Share
  have jShare : PySem.W.kitOne X.K (.ref cShare) (.ref cShare) = some true := by rw [show X.K = K from ok.kE]; exact T.kc_Share
  have qShare0 : ((wd K cShare).cf 0)[0]? = some ("over" : Str) := rfl
  have qShare1 : ((wd K cShare).cf 0)[1]? = some ("under" : Str) := rfl
  have calm := ok.calm
  have wk := ok.wk
  obtain ⟨cs, rfl, hl, h⟩ := h
  obtain rfl : M = [] := List.eq_nil_of_length_eq_zero hM
  refine ws_rho (by fail "rho") ?_
  have f0' : Fc X.nox (wd K cShare) "_law_holds" 0 dsp__law_holds := ⟨f0.gl, f0.ex, f0.n2⟩
  have l0' : Lv X.nox "script" 0 := ⟨l0.nm, l0.vis, l0.d1, l0.d2⟩
  refine ws_one (w1_thru ?_)
  fail "dls"
  exact h
theorem all_of {P : Program} {w : World} {K : PySem.W.Frag} {h : Heap} {mg : Str → Option Value} {fa cShare : Addr} (X : K.In h) (G : h.Ns mainGlobals mg) (hfa : mg "law" = some (.ref fa)) (T : Txt K mg cShare) :
    ∃ fd : FuncData, (∀ (s : Shared) (u : Value), BindsTo s fd ⟨[u], []⟩ [("script", u)]) ∧ ∀ base : Heap, K.In base → base.Ns mainGlobals mg → FnOk P w K mg base (L2.CX P w) 15 fa fd ["script"] (spOf (wd K cShare) 0 dsp_law) := by
  obtain ⟨f, fd, F, hm⟩ := T.d_law.ex
  have e := hfa.symm.trans hm
  cases e
  obtain ⟨oc, od, kV, doc, pm, an, cdv, ct, osl, efd, lk, hcd⟩ := F.ex
  exact ⟨fd, fun s u => by subst efd; exact .of_eq rfl, fun base KB GB => ok_law (P := P) (w := w) (base := base) T F⟩
theorem sp_law {K : PySem.W.Frag} {W : Wd} (wk : W.K = K) (H : Hp) (a : Addr) (ns : List Int) (hl : ns.length ≤ 63) (hS : SqL K H a (ns.map V.int)) : spOf W 0 dsp_law [.ref a] H (fun v _ => v = .bl true) fun _ _ _ => False :=
  sp_lawD wk H a ns hS (fun a _ => a = .d (.bl true)) (fun _ _ _ => False) ⟨ns, rfl, hl, rfl⟩ (fun a M e => by subst e; rfl) (fun _ _ _ z => z)
theorem walk {l : PySem.W.OpenLaw} {q : Program} {loose : List Str} {XP : (Str → Option Value) → Heap → Prop} {YP : World → Heap → Prop} {d : DefRec} {K : Params → PySem.W.Frag} {cShare : Addr} (hn : l.most = some 63) (hdf : d.params.defaults = [])
    (hY : ∀ (w : World) (h : Heap), YP w h → (K w.params).In h)
    (F : ∀ (w : World) (mg : Str → Option Value) (fa : Addr) (h : Heap), (K w.params).In h → h.Ns mainGlobals mg → mg d.name = some (.ref fa) → mg "law" = some (.ref fa) ∧ Txt (K w.params) mg cShare) (hd : d.name = "law") :
    PySem.W.WalkO q loose XP YP l.row.toRowW d [] (fun f vs => PySem.call f vs) :=
  L2.walk_of (n := 63) (k := 15) (x := "script") (CX := fun w => L2.CX l.prog w) (sp := fun w => spOf (wd (K w.params) cShare) 0 dsp_law) hn (by decide) hdf ⟨rfl, by decide, by decide⟩ hY
    (fun w mg fa h KX G hmg => all_of KX G (F w mg fa h KX G hmg).1 (F w mg fa h KX G hmg).2) (fun w H a ns hl _ hS => sp_law rfl H a ns hl hS)
    fun w H s e s' ⟨_, _, _, _, _, _, _, _, _, _, _, _, z⟩ => z.elim
end Lw
open PySem PySem.W PyProof.Rows
set_option maxRecDepth 100000 in
set_option maxHeartbeats 0 in
theorem PySem.Challenge.cw_sourcestold_k66_whole_tails_holds : PySem.Challenge.rw_sourcestold_k66_whole_tails.Holds := by
  w_on; o_law; k_head; (case hw => w_witness2)
  k_fill
  refine' Lw.walk (l := PySem.Challenge.rw_sourcestold_k66_whole_tails) rfl rfl (fun w h Y => PySem.W.kIn_of Y) ?F ?hd
  case hd => rfl
  case F =>
    intro w mg fa h KX G hmg
    refine' ⟨hmg, ?T⟩
    case T =>
      refine' { d_law := ?d_law, d__law_holds := ?d__law_holds, d__law_stream := ?d__law_stream, d_Share_add := ?d_Share_add, d_Share_init := ?d_Share_init, d_greatest_divisor := ?d_greatest_divisor, d_Share_eq := ?d_Share_eq, d_Share_mul := ?d_Share_mul, d_Share_sub := ?d_Share_sub, d__law_numbers := ?d__law_numbers, d__law_draw := ?d__law_draw, d__law_mean := ?d__law_mean, d__law_at := ?d__law_at, d__law_fits := ?d__law_fits, d__law_tails := ?d__law_tails, d__law_same := ?d__law_same, d__law_is_share := ?d__law_is_share, d__law_is_whole := ?d__law_is_whole, d__law_gcd := ?d__law_gcd, d_greatest_tail := ?d_greatest_tail, d_tail_of := ?d_tail_of, d_check_spread := ?d_check_spread, d_check_numbers := ?d_check_numbers, d_is_sequence := ?d_is_sequence, d_is_integer := ?d_is_integer, d_are_parts := ?d_are_parts, d_share_from_zero := ?d_share_from_zero, d_sum_of := ?d_sum_of, d_greatest_spread := ?d_greatest_spread, d__spreads_on_two := ?d__spreads_on_two, d_Share_by := ?d_Share_by, d_greatest_at := ?d_greatest_at, d_Share_is_below := ?d_Share_is_below, d_least_tail := ?d_least_tail, d_least_spread := ?d_least_spread, d__law_spread_fits := ?d__law_spread_fits, d__law_pair := ?d__law_pair, d__law_like := ?d__law_like, d__law_sum := ?d__law_sum, d__law_told_line := ?d__law_told_line, d_tail_line := ?d_tail_line, d__lines_through := ?d__lines_through, d_is_line := ?d_is_line, d__line_at := ?d__line_at, d__law_line_fits := ?d__law_line_fits, d__law_lines_judged := ?d__law_lines_judged, d_greatest_square := ?d_greatest_square, b_range := ?b_range, b_len := ?b_len, b_int := ?b_int, b_abs := ?b_abs, b_isinstance := ?b_isinstance, b_sum := ?b_sum, b_list := ?b_list, b_tuple := ?b_tuple, b_max := ?b_max, b_str := ?b_str, b_bool := ?b_bool, b_zip := ?b_zip, b_all := ?b_all, b_enumerate := ?b_enumerate, b_min := ?b_min, b_any := ?b_any, i_MOST_NUMBERS := ?i_MOST_NUMBERS, i_BOUND := ?i_BOUND, c_Share := ?c_Share, k_Share := ?k_Share, pg_Share := ?pg_Share, hd_Share := ?hd_Share, po_Share := ?po_Share, sa_Share := ?sa_Share, mk_Share := ?mk_Share, ho_Share := ?ho_Share, na_Share_over := ?na_Share_over, na_Share_under := ?na_Share_under, ha_Share := ?ha_Share, hm_Share := ?hm_Share, kc_Share := ?kc_Share, hn := ?hn, ht := ?ht }
      case c_Share => fail "dl_glo"
      case d_law => fail "dl_def"
      case d__law_holds => fail "dl_def"
      case d__law_stream => fail "dl_def"
      case d_Share_add => fail "dl_meth"
      case d_Share_init => fail "dl_meth"
      case d_greatest_divisor => fail "dl_def"
      case d_Share_eq => fail "dl_meth"
      case d_Share_mul => fail "dl_meth"
      case d_Share_sub => fail "dl_meth"
      case d__law_numbers => fail "dl_def"
      case d__law_draw => fail "dl_def"
      case d__law_mean => fail "dl_def"
      case d__law_at => fail "dl_def"
      case d__law_fits => fail "dl_def"
      case d__law_tails => fail "dl_def"
      case d__law_same => fail "dl_def"
      case d__law_is_share => fail "dl_def"
      case d__law_is_whole => fail "dl_def"
      case d__law_gcd => fail "dl_def"
      case d_greatest_tail => fail "dl_def"
      case d_tail_of => fail "dl_def"
      case d_check_spread => fail "dl_def"
      case d_check_numbers => fail "dl_def"
      case d_is_sequence => fail "dl_def"
      case d_is_integer => fail "dl_def"
      case d_are_parts => fail "dl_def"
      case d_share_from_zero => fail "dl_def"
      case d_sum_of => fail "dl_def"
      case d_greatest_spread => fail "dl_def"
      case d__spreads_on_two => fail "dl_def"
      case d_Share_by => fail "dl_meth"
      case d_greatest_at => fail "dl_def"
      case d_Share_is_below => fail "dl_meth"
      case d_least_tail => fail "dl_def"
      case d_least_spread => fail "dl_def"
      case d__law_spread_fits => fail "dl_def"
      case d__law_pair => fail "dl_def"
      case d__law_like => fail "dl_def"
      case d__law_sum => fail "dl_def"
      case d__law_told_line => fail "dl_def"
      case d_tail_line => fail "dl_def"
      case d__lines_through => fail "dl_def"
      case d_is_line => fail "dl_def"
      case d__line_at => fail "dl_def"
      case d__law_line_fits => fail "dl_def"
      case d__law_lines_judged => fail "dl_def"
      case d_greatest_square => fail "dl_def"
      case b_range => fail "dl_none"
      case b_len => fail "dl_none"
      case b_int => fail "dl_none"
      case b_abs => fail "dl_none"
      case b_isinstance => fail "dl_none"
      case b_sum => fail "dl_none"
      case b_list => fail "dl_none"
      case b_tuple => fail "dl_none"
      case b_max => fail "dl_none"
      case b_str => fail "dl_none"
      case b_bool => fail "dl_none"
      case b_zip => fail "dl_none"
      case b_all => fail "dl_none"
      case b_enumerate => fail "dl_none"
      case b_min => fail "dl_none"
      case b_any => fail "dl_none"
      case i_MOST_NUMBERS => fail "dl_cst"
      case i_BOUND => fail "dl_cst"
      case k_Share => k_is
      case pg_Share => k_is
      case hd_Share => k_is
      case po_Share => k_is
      case sa_Share => k_is
      case mk_Share => k_is
      case ho_Share => (refine' DlN.hd_mk ?e ?m; (case e => k_is); (case m => exact rfl))
      case na_Share_over => (delta L2.NoAttr; k_is)
      case na_Share_under => (delta L2.NoAttr; k_is)
      case ha_Share => k_is
      case hm_Share => k_is
      case kc_Share => fail "dl_kit"
      case hn => k_is
      case ht => k_is
